import PyProof.Rows.All
import OpenK.KLine
import PyProof.EnumMake
import PyProof.EnumStmt
import PyProof.EnumFor
import Lean
import PySem.Challenge.RW_nm0168_02
set_option Elab.async false
set_option maxRecDepth 100000
set_option maxHeartbeats 8000000
set_option linter.all false
set_option tactic.hygienic false
set_option genSizeOfSpec false
set_option genInjectivity false
open And renaming imp_right→vp
open Array renaming ext'→vq,getElem?_eq_getElem→Iw,getElem?_toList→Dl,length_toList→vr,mem_toList_iff→vt,toList_append→vv,toList_push→vx
open Bool renaming and_eq_true→LM,and_eq_true_iff→AM,and_false→U9,and_true→LN,eq_false_iff→rS,eq_iff_iff→Ou,false→aE,false_and→vy,false_eq_true→VA,false_ne_true→E1,noConfusion→mX,not_eq_true'→Ov,or_eq_false_iff→wa,or_eq_true→Dm,or_eq_true_iff→Ow,or_true→Ox,true→u
open Char renaming toNat→wm
open Decidable renaming byContradiction→wq
open False renaming elim→Iz
open ForInStep renaming yield→xa
open Int renaming add_assoc→BJ,add_comm→LO,add_le_add_left→CR,add_le_add_right→BK,add_lt_add_left→O5,add_nonneg→xb,add_right_comm→VL,add_sub_cancel→Dp,ediv_nonneg→xc,eq_ofNat_of_zero_le→yH,fdiv_eq_ediv_of_nonneg→xd,fmod_lt_of_pos→xe,fmod_nonneg_of_pos→O6,le_add_of_nonneg_right→wO,le_antisymm→xf,le_of_eq→Dq,le_of_lt→vE,le_refl→mY,le_trans→gB,lt_add_one_of_le→I1,lt_irrefl→LP,lt_of_le_of_lt→qV,lt_of_lt_of_le→mZ,lt_trans→yI,max_eq_right→xg,mul_assoc→VM,mul_comm→VN,mul_le_mul_of_nonneg_left→xh,natCast_add→pX,natCast_nonneg→eQ,negSucc→xi,not_le→xj,not_lt→oD,ofNat_le→fV,ofNat_lt→eZ,ofNat_sub→yJ,pow_nonneg→xk,pow_succ→xl,sub_le_self→VO,sub_le_sub→xm,sub_left_le_of_le_add→xn,sub_sub→O7,toNat→xo,toNat_add→xp,toNat_le→E4,toNat_lt→yK,toNat_lt'→xq,toNat_natCast→Gv,toNat_of_nonneg→pG,zero_add→I2
open Int.ofNat renaming inj→pY
open List renaming all_eq_true→yL,all_map→xt,any_cons→VP,any_eq_false→xu,any_eq_true→E5,any_map→xw,append_assoc→fB,append_inj'→LQ,append_ne_nil_of_right_ne_nil→VQ,append_nil→pH,concat_eq_append→LR,cons_append→LS,cons_ne_nil→VR,dropLast_concat→CT,dropLast_concat_getLast→VS,dropLast_eq_take→VT,dropLast_sublist→O8,drop_left→xx,eq_nil_of_length_eq_zero→Dr,eq_nil_or_concat→LU,ext_getElem?→yM,filterMap_append→xy,filterMap_cons→LV,filterMap_nil→xz,find?_append→ya,find?_cons→VU,find?_eq_none→yb,find?_some→yc,foldl→VV,getD→E6,getD_eq_getElem?_getD→sW,getElem?_append_left→gO,getElem?_append_right→oP,getElem?_concat_length→kZ,getElem?_drop→I3,getElem?_dropLast→Gx,getElem?_eq_getElem→cS,getElem?_eq_none→lF,getElem?_eq_none_iff→yd,getElem?_eq_some_iff→iT,getElem?_inj→O9,getElem?_map→fJ,getElem?_of_mem→I4,getElem?_range→rT,getElem?_replicate→VW,getElem?_set_ne→kL,getElem?_set_self→jZ,getElem?_set_self'→VX,getElem?_take_of_lt→VY,getElem_cons_drop→VZ,getElem_inj→Va,getElem_map→ye,getElem_mem→AO,getLast?_concat→Ds,getLast?_eq_getElem?→CU,getLast?_eq_some_getLast→yf,getLast?_map→LW,isEmpty_iff→vF,length→pZ,length_append→bA,length_cons→wP,length_drop→LX,length_dropLast→iR,length_filterMap_le→Vb,length_map→cJ,length_pos_iff→yg,length_pos_of_mem→yh,length_range→pI,length_replicate→BL,length_set→mI,length_take→Dt,length_take_le'→PA,length_take_of_le→PB,lookup_append→yi,lookup_cons→I5,map→yj,map_append→kM,map_cons→yN,map_drop→yk,map_dropLast→Du,map_eq_nil_iff→yl,map_map→Gy,map_nil→ym,map_set→I6,map_take→Vc,mem_append→oQ,mem_append_left→Vd,mem_append_right→E7,mem_cons→oE,mem_cons_of_mem→tX,mem_cons_self→vG,mem_filter→PC,mem_map→E8,mem_of_find?_eq_some→yn,mem_of_getElem?→oF,mem_of_getLast?→PD,mem_of_mem_take→yo,mem_or_eq_of_mem_set→yp,mem_range→Gz,mem_singleton→iU,nil_append→I7,nodup_append→yq,nodup_cons→Dv,nodup_nil→G0,not_mem_nil→nA,pairwise_iff_getElem→yr,range→fX,range_succ→I8,range_succ_eq_map→yt,replicate→kA,replicate_succ→Ve,replicate_zero→yu,reverse_cons→I9,set_append_left→yv,set_append_right→E9,take_add_one→yw,take_append_drop→Vf,take_append_of_le_length→yx,take_length→CV,take_of_length_le→yy,zip_cons_cons→Vg
open List.Pairwise renaming imp→qt'
open List.cons renaming inj→Gw
open Nat renaming add_assoc→gC,add_comm→nB,add_le_add→eN,add_le_add_left→eR,add_le_add_right→dP,add_left_cancel→PF,add_lt_add_left→yO,add_lt_add_of_lt_of_le→qA,add_lt_add_right→sX,add_right_cancel→G1,add_right_comm→hS,add_sub_cancel→PG,add_sub_cancel'→JA,add_sub_cancel_left→wQ,beq→hU,beq_refl→LY,ble→JB,eq_of_beq_eq_true→AP,exists_eq_succ_of_ne_zero→Vi,le_add_left→dL,le_add_left_of_le→PH,le_add_right→bU,le_antisymm→BM,le_max_right→zb,le_of_add_le_add_right→zc,le_of_ble_eq_true→Vj,le_of_eq→dH,le_of_lt→lO,le_of_lt_succ→BN,le_of_not_lt→sY,le_of_succ_le→kT,le_of_succ_le_succ→PI,le_refl→cE,le_sub_of_add_le→G2,le_sub_one_of_lt→LZ,le_succ→nC,le_succ_of_le→nP,le_trans→aL,log2_lt→zd,lt_add_of_pos_left→PJ,lt_add_of_pos_right→PK,lt_irrefl→tY,lt_of_le_of_lt→cM,lt_of_le_of_ne→La,lt_of_lt_of_eq→G3,lt_of_lt_of_le→eP,lt_of_succ_lt→zg,lt_one_iff→PL,lt_or_eq_of_le→PM,lt_or_ge→zh,lt_sub_of_add_lt→Vk,lt_succ_of_le→zj,lt_succ_of_lt→yP,lt_succ_self→iB,lt_trans→bT,max_le→Vl,min_eq_left→FC,min_eq_right→Vm,min_le_right→PN,min_self→zm,mul_le_mul_left→yQ,mul_le_mul_right→zn,mul_succ→PO,ne_of_gt→rU,ne_of_lt→mK,noConfusion→PP,not_le→JC,not_lt→kU,not_lt_of_le→zo,not_lt_zero→Vn,not_succ_le_self→zp,one_pos→CW,sub_add_cancel→jH,sub_eq_zero_of_le→zq,sub_le→fW,sub_le_iff_le_add'→zu,sub_lt→CX,sub_lt_sub_left→zv,sub_pos_of_lt→Lb,sub_self→qB,sub_sub→JD,sub_sub_self→zw,succ→FD,succ_add_eq_add_succ→Lc,succ_le_of_lt→zx,succ_le_succ→gP,succ_lt_succ→tZ,succ_mul→zy,succ_ne_zero→a8,succ_pos→BP,succ_pred_eq_of_pos→a9,zero_add→nQ,zero_le→nD,zero_lt_of_lt→CY
open Nat.le renaming dest→za
open Nat.succ renaming inj→Vo
open Ne renaming symm→FE
open Option renaming getD→Vp,getD_none→Vq,getD_some→b9,isNone_iff_eq_none→CZ,isSome_iff_exists→rV,isSome_map→c7,isSome_of_mem→PQ,join_eq_some_iff→c8,map→Vr,map_eq_some_iff→Ca,map_map→Vs,map_some→FH,mem_def→PR,none→Vt,none→aB,not_isSome_iff_eq_none→c9,some→Z
open Option.some renaming inj→aT
open Or renaming imp_left→JE,imp_right→d6
open Prod renaming fst→PT,snd→d7
open PyProof.Rows renaming and_int→qu',floordiv_int→qv',lshift_int_small→qw',mod_int'→qx',or_int→qy',pow_int_small→qz',rshift_int→qA',slot_tuple_getitem→l7,xor_int→qB'
open PySem renaming Addr→bC,Around→dO,BoolOp→Ix,CmpOp→JF,Comprehension→VG,Const→CQ,Data→E2,DefRec→Dn,DictEntry→E3,Env→fM,Env→yG,Expr→aK,FuncData→I0,Heap→bS,Model→FA,NameKind→jM,Obj→gQ,Operator→FG,Operator→wR,OsState→mL,Params→uA,Pos→cZ,Program→PU,Result→JG,Scope→oG,Sem→rW,Shared→aV,Stmt→dK,Str→aU,Tok→sZ,UnaryOp→JH,Value→aJ,World→jS,args_list_setitem→Vw,arm_assign_Subscript→i6,arm_eval_BoolOp→i7,arm_eval_Subscript→i8,arm_isTrue_BoolOp→i9,assignAll→Vx,assignEach→Cd,assignInOrder→Vy,attributeBase→j4,backTo→JJ,behindInMarks→j5,binaryOp→PV,bindC→Lf,bindL→Lg,cLine→BQ,callWith→Lh,call_list_seq→j6,call_meets→FI,cellsFrom→WB,closureFor→PY,codeAny→JK,compEnvC→uB,compareOp→WC,entry_list_setitem→WG,evalArgs→WH,evalEach→PZ,evalPart→WI,evalPart_none→WJ,getItem→G6,getMethod→JL,getMethod_builtin→j7,handedOut→WK,holding→FK,importedModules→WL,intKind→nF,intKind_is→G8,keeperOf→WM,letOwnedTupleGo→Pb,lookup_relabel_local→j8,mainGlobals→WN,mem_of_lookup→FL,methodCallForm→j9,methodCallPos→k4,notedBy→JN,pyIter→Lj,recursionLimit→WO,relabel→Pd,seqIndex?→Pe,setItem→JO,sizeLine→AR,sliceBounds→Lm,slot_dict_getitem→k8,slot_dict_setitem→k9,slot_list_getitem→l6,slot_list_setitem→JP,starEach→FM,swappedStores→JQ,swapsWith→Ln,swapsWithSole→Pf,sysModules→D1,treeTable→BR,typeLookup→FN,valueAt→G9,wpAny→cG,wpAny_For→WP,wpAny_UnaryOp→l8,wpAny_assign_Name→Pg,wpAny_bind→bN,wpAny_comprehension_free→l9,wpAny_execs_nil→WQ,wpAny_field→WR,wpAny_holding→jN,wpAny_letTemporaryGo→WS,wpAny_listPart→WT,wpAny_listSubscript_int→m7,wpAny_loadName_cell→m8,wpAny_loadName_local→m9,wpAny_mono→nG,wpAny_newObj_type→WU,wpAny_operating→JR,wpAny_pure→eF,wpAny_release→JS,wpAny_rule→Pi,wpAny_seqItems→n7,wpAny_setSeqItemAt→r9,wpAny_specialOf→s7,wpAny_standAt→lP,wpAny_storeName_local→s9,wpAny_truthy_bool→HA
open PySem.Builtin renaming bitAnd→VF,bitNot→BI,bitOr→we,bitXor→wg
open PySem.Builtin.Dict renaming notOrdered→qq'
open PySem.Builtin.Int renaming intBits→wb
open PySem.Builtin.List renaming listAllItems→wc,listFitsIndex→VB,listItems→VC,listSameRef→wd,listSubscript?→Oy,listTooLong→VD
open PySem.Builtin.Range renaming rangeSize→qr'
open PySem.Calls renaming Name_function_global→wh,loadGlobal_builtin→wi,loadGlobal_global→wj,wpAny_keep→wk
open PySem.Challenge renaming pw_nm0168_02→qC',rw_nm0168_02→qD'
open PySem.Data renaming noConfusion→wn
open PySem.Env renaming blockKind→wr,kindOf→Iy
open PySem.F renaming slot_dict_get→ws,slot_int_rmul→wt,slot_list_append→wu,slot_list_extend→ww,slot_list_pop→wz
open PySem.Flow renaming next→vD
open PySem.Heap renaming SameBut→O0,get?_none_of_le→AN,get?_push_of_some→sV,get?_push_size→Do,get?_update_self→VJ,lt_size→VK
open PySem.Heap.CodeRec renaming of_ok→qs'
open PySem.Heap.IsSliceOf renaming new→VH
open PySem.Heap.Ns renaming of_isNs→Oz
open PySem.Heap.SameBut renaming update→VI
open PySem.IsRange renaming new→xr
open PySem.NameKind renaming cell→yz,free→FB,noConfusion→Vh
open PySem.Obj renaming data_mapDict→b4,data_mapDictKeys→b7,isFreed_of_dict→b8,mapSeq→FF
open PySem.Shared renaming TypeIs→d8
open PySem.Str renaming empty→Cb,ofString→bR
open PySem.UnaryOp renaming Not→d9
open PySem.Value renaming bool→Vu,int→JI,ref→Vv
open PySem.Value.bool renaming inj→qE'
open PySem.Value.ref renaming inj→Cc
open PySem.Value.type renaming inj→f9
open PySem.W renaming SharedT→G5,behindTheImports→Vz,boot_drawn→vI,boot_heap→Dz,boot_o_0→V0,boot_o_1→V1,boot_o_10→V3,boot_o_2→V4,boot_o_4→V5,boot_o_5→V6,boot_o_6→V7,boot_o_7→V8,boot_o_8→V9,boot_o_9→WA,boot_toks→PX,namesMeet→Pc,piece_app→Li,piecesOf→wT,segRunT→Lk,segRun_of→Ll
open PySem.W.Fast renaming te10110043849684766642→Ld,te14364793385576792824→Le,tw10110043849684766642→Dw,tw14364793385576792824→Dx
open PySem.W.OpenLaw renaming row→G4
open _root_ renaming Array→gN,Bool→aC,Int→J,List→Y,Nat→O,Option→aG,String→lA,Unit→vH,beq_eq_false_iff_ne→jB,beq_iff_eq→kB,beq_self_eq_true→Ce,bne_iff_ne→Dy,congrArg→aW,decide_eq_decide→WD,decide_eq_false→FJ,decide_eq_true_eq→WE,decide_eq_true_iff→WF,if_false→Pa,if_neg→aR,if_pos→aZ,if_true→G7,ne_of_beq_false→bM,not_false_eq_true→k7,not_not_intro→JM,of_decide_eq_false→AQ,of_decide_eq_true→fY,or_false→D0
open PySem PySem.W PyProof.Rows PySem.SeqAt
namespace Mine.Internal
@[elab_as_elim] theorem rwr{α:Sort u}{a b:α}{p:α->Prop}(e:a=b)(h:p b):p a:=e▸h
@[elab_as_elim] theorem rwl{α:Sort u}{a b:α}{p:α->Prop}(e:b=a)(h:p b):p a:=e▸h
end Mine.Internal
set_option compiler.extract_closed false in
open Lean in
local macro_rules (kind:=Lean.Parser.Tactic.rwSeq)
 | x=>do
  let a:=x[2][1]
  let n:=Syntax.node .none
  let s r:=x.setArg 2 (x[2].setArg 1 (n `null r))
  if a.getNumArgs==0||!x[3].isNone then Macro.throwUnsupported
  else return n `null #[n `Lean.Parser.Tactic.first #[.missing,n `null #[n `group #[.missing,n `Lean.Parser.Tactic.refine #[.missing,n `Lean.Parser.Term.noImplicitLambda #[.missing,n `Lean.Parser.Term.app #[mkIdent (if a[0][0].isNone then `Mine.Internal.rwr else `Mine.Internal.rwl),n `null #[n `Lean.Parser.Term.app #[a[0][1],n `null #[n `Lean.Parser.Term.ellipsis #[.missing]]],n `Lean.Parser.Term.syntheticHole #[.missing,mkAtom "_"]]]]]],n `group #[.missing,n `Lean.Parser.Tactic.rewriteSeq (s #[a[0]]).getArgs]]],s (a.getArgs.extract 2 a.getNumArgs)]
noncomputable section
namespace Mine.Internal
section
variable{a b c f h m n p s t x y:O}
set_option genSizeOf false
set_option genSizeOfSpec false
set_option genInjectivity false
structure A3(p0 p1 p2:Prop):Prop where
 h0:p0
 h1:p1
 h2:p2
structure A4(p0 p1 p2 p3:Prop):Prop where
 h0:p0
 h1:p1
 h2:p2
 h3:p3
structure A5(p0 p1 p2 p3 p4:Prop):Prop where
 h0:p0
 h1:p1
 h2:p2
 h3:p3
 h4:p4
structure A6(p0 p1 p2 p3 p4 p5:Prop):Prop where
 h0:p0
 h1:p1
 h2:p2
 h3:p3
 h4:p4
 h5:p5
structure A7(p0 p1 p2 p3 p4 p5 p6:Prop):Prop where
 h0:p0
 h1:p1
 h2:p2
 h3:p3
 h4:p4
 h5:p5
 h6:p6
structure A8(p0 p1 p2 p3 p4 p5 p6 p7:Prop):Prop where
 h0:p0
 h1:p1
 h2:p2
 h3:p3
 h4:p4
 h5:p5
 h6:p6
 h7:p7
inductive jO{t0:Type}(p0:t0->Prop):Prop
 | mk(x0:t0)(h0:p0 x0):jO p0
inductive fQ{t0:Type}(p0 p1:t0->Prop):Prop
 | mk(x0:t0)(h0:p0 x0)(h1:p1 x0):fQ p0 p1
inductive rA{t0:Type}(p0 p1 p2:t0->Prop):Prop
 | mk(x0:t0)(h0:p0 x0)(h1:p1 x0)(h2:p2 x0):rA p0 p1 p2
inductive JX{t0:Type}(p0 p1 p2 p3:t0->Prop):Prop
 | mk(x0:t0)(h0:p0 x0)(h1:p1 x0)(h2:p2 x0)(h3:p3 x0):JX p0 p1 p2 p3
inductive Wj{t0:Type}(p0 p1 p2 p3 p4:t0->Prop):Prop
 | mk(x0:t0)(h0:p0 x0)(h1:p1 x0)(h2:p2 x0)(h3:p3 x0)(h4:p4 x0):Wj p0 p1 p2 p3 p4
inductive EC{t0 t1:Type}(p0:t0->t1->Prop):Prop
 | mk(x0:t0)(x1:t1)(h0:p0 x0 x1):EC p0
inductive AV{t0 t1:Type}(p0 p1:t0->t1->Prop):Prop
 | mk(x0:t0)(x1:t1)(h0:p0 x0 x1)(h1:p1 x0 x1):AV p0 p1
inductive yY{t0 t1:Type}(p0 p1 p2:t0->t1->Prop):Prop
 | mk(x0:t0)(x1:t1)(h0:p0 x0 x1)(h1:p1 x0 x1)(h2:p2 x0 x1):yY p0 p1 p2
inductive ED{t0 t1:Type}(p0 p1 p2 p3:t0->t1->Prop):Prop
 | mk(x0:t0)(x1:t1)(h0:p0 x0 x1)(h1:p1 x0 x1)(h2:p2 x0 x1)(h3:p3 x0 x1):ED p0 p1 p2 p3
inductive Pv{t0 t1:Type}(p0 p1 p2 p3 p4:t0->t1->Prop):Prop
 | mk(x0:t0)(x1:t1)(h0:p0 x0 x1)(h1:p1 x0 x1)(h2:p2 x0 x1)(h3:p3 x0 x1)(h4:p4 x0 x1):Pv p0 p1 p2 p3 p4
inductive Lz{t0 t1 t2:Type}(p0:t0->t1->t2->Prop):Prop
 | mk(x0:t0)(x1:t1)(x2:t2)(h0:p0 x0 x1 x2):Lz p0
inductive Pw{t0 t1 t2:Type}(p0 p1 p2:t0->t1->t2->Prop):Prop
 | mk(x0:t0)(x1:t1)(x2:t2)(h0:p0 x0 x1 x2)(h1:p1 x0 x1 x2)(h2:p2 x0 x1 x2):Pw p0 p1 p2
inductive JY{t0 t1 t2:Type}(p0 p1 p2 p3:t0->t1->t2->Prop):Prop
 | mk(x0:t0)(x1:t1)(x2:t2)(h0:p0 x0 x1 x2)(h1:p1 x0 x1 x2)(h2:p2 x0 x1 x2)(h3:p3 x0 x1 x2):JY p0 p1 p2 p3
inductive JZ{t0 t1 t2:Type}(p0 p1 p2 p3 p4:t0->t1->t2->Prop):Prop
 | mk(x0:t0)(x1:t1)(x2:t2)(h0:p0 x0 x1 x2)(h1:p1 x0 x1 x2)(h2:p2 x0 x1 x2)(h3:p3 x0 x1 x2)(h4:p4 x0 x1 x2):JZ p0 p1 p2 p3 p4
inductive Wk{t0 t1 t2:Type}(p0 p1 p2 p3 p4 p5:t0->t1->t2->Prop):Prop
 | mk(x0:t0)(x1:t1)(x2:t2)(h0:p0 x0 x1 x2)(h1:p1 x0 x1 x2)(h2:p2 x0 x1 x2)(h3:p3 x0 x1 x2)(h4:p4 x0 x1 x2)(h5:p5 x0 x1 x2):Wk p0 p1 p2 p3 p4 p5
inductive Px{t0 t1 t2 t3:Type}(p0:t0->t1->t2->t3->Prop):Prop
 | mk(x0:t0)(x1:t1)(x2:t2)(x3:t3)(h0:p0 x0 x1 x2 x3):Px p0
inductive Wm{t0 t1 t2 t3:Type}(p0 p1 p2:t0->t1->t2->t3->Prop):Prop
 | mk(x0:t0)(x1:t1)(x2:t2)(x3:t3)(h0:p0 x0 x1 x2 x3)(h1:p1 x0 x1 x2 x3)(h2:p2 x0 x1 x2 x3):Wm p0 p1 p2
inductive Wn{t0 t1 t2 t3:Type}(p0 p1 p2 p3 p4:t0->t1->t2->t3->Prop):Prop
 | mk(x0:t0)(x1:t1)(x2:t2)(x3:t3)(h0:p0 x0 x1 x2 x3)(h1:p1 x0 x1 x2 x3)(h2:p2 x0 x1 x2 x3)(h3:p3 x0 x1 x2 x3)(h4:p4 x0 x1 x2 x3):Wn p0 p1 p2 p3 p4
inductive Wo{t0 t1 t2 t3 t4:Type}(p0 p1:t0->t1->t2->t3->t4->Prop):Prop
 | mk(x0:t0)(x1:t1)(x2:t2)(x3:t3)(x4:t4)(h0:p0 x0 x1 x2 x3 x4)(h1:p1 x0 x1 x2 x3 x4):Wo p0 p1
inductive Wp{t0 t1 t2 t3 t4:Type}(p0 p1 p2 p3 p4 p5 p6 p7 p8:t0->t1->t2->t3->t4->Prop):Prop
 | mk(x0:t0)(x1:t1)(x2:t2)(x3:t3)(x4:t4)(h0:p0 x0 x1 x2 x3 x4)(h1:p1 x0 x1 x2 x3 x4)(h2:p2 x0 x1 x2 x3 x4)(h3:p3 x0 x1 x2 x3 x4)(h4:p4 x0 x1 x2 x3 x4)(h5:p5 x0 x1 x2 x3 x4)(h6:p6 x0 x1 x2 x3 x4)(h7:p7 x0 x1 x2 x3 x4)(h8:p8 x0 x1 x2 x3 x4):Wp p0 p1 p2 p3 p4 p5 p6 p7 p8
inductive Wq{t0 t1 t2 t3 t4 t5:Type}(p0 p1:t0->t1->t2->t3->t4->t5->Prop):Prop
 | mk(x0:t0)(x1:t1)(x2:t2)(x3:t3)(x4:t4)(x5:t5)(h0:p0 x0 x1 x2 x3 x4 x5)(h1:p1 x0 x1 x2 x3 x4 x5):Wq p0 p1
inductive Wr{t0 t1 t2 t3 t4 t5:Type}(p0 p1 p2 p3 p4 p5 p6:t0->t1->t2->t3->t4->t5->Prop):Prop
 | mk(x0:t0)(x1:t1)(x2:t2)(x3:t3)(x4:t4)(x5:t5)(h0:p0 x0 x1 x2 x3 x4 x5)(h1:p1 x0 x1 x2 x3 x4 x5)(h2:p2 x0 x1 x2 x3 x4 x5)(h3:p3 x0 x1 x2 x3 x4 x5)(h4:p4 x0 x1 x2 x3 x4 x5)(h5:p5 x0 x1 x2 x3 x4 x5)(h6:p6 x0 x1 x2 x3 x4 x5):Wr p0 p1 p2 p3 p4 p5 p6
theorem n1{d:O}(h:d<a):a-1-b<a:=cM (fW _ _) (CX (CY h) CW)
theorem n2(h:b<a):a-1-b+b+1=a:=(aW (· + 1) (jH (LZ h))).trans (jH (CY h))
theorem n3(h:b<a):((a-1-b:O):J)=a-1-b:=by rw[JD,yJ (nB b 1▸h),pX];exact (O7 _ _ _).symm
theorem n4{r:O}(h:s=n-r+(r-n)):s<=n+r:=h▸eN (fW _ _) (fW _ _)
theorem n5: m-min n m=m-n:=(Nat.le_total n m).elim (λh=>by rw[FC h]) λh=>by rw[Vm h,qB,zq h]
theorem n6: (if (m:J)<n then (m:J) else n)=(min n m:O):=by by_cases h:m<n;rw[aZ (eZ.mpr h),Vm (lO h)];rw[aR (λq=>h (eZ.mp q)),FC (kU.mp h)]
theorem n8{i j:O}(e:h+(i-f)=h+(j-f))(hi: ¬ i<f)(hj: ¬ j<f):i=j:=
 (jH (kU.mp hi)).symm.trans ((aW (· + f) (PF e)).trans (jH (kU.mp hj)))
theorem n9(hc:c<70000)(hp:p<=2)(hn:n<=1000)(h:s=n-p+(p-n)):c+s+5<71010:=
 bT (sX (qA hc (aL (n4 h) (eN hn hp))) 5) (by decide)
theorem TL{k:O}(h:a+1<=k):k-(a+1)+1=k-a:=by rw[<-JD];exact jH (G2 (nB a 1▸h))
theorem CB{a:J}: a<=a+1:=vE (I1 (mY a))
@[elab_as_elim] theorem db{P:O->Prop}(h:n<4)(h0:P 0)(h1:P 1)(h2:P 2)(h3:P 3):P n:=by
 match n,h with
 | 0,_=>exact h0
 | 1,_=>exact h1
 | 2,_=>exact h2
 | 3,_=>exact h3
theorem dm{v:J}(h:0<=v)(k:v<3):v=0\/v=1\/v=2:=by obtain⟨n,rfl⟩:=yH h;exact (by decide:∀n:O,n<3->(n:J)=0\/(n:J)=1\/(n:J)=2) n (eZ.mp k)
theorem ii'{w:J}(h:4<=w)(k:w<12\/w=15):w=4\/w=5\/w=6\/w=7\/w=8\/w=9\/w=10\/w=11\/w=15:=by obtain⟨n,rfl⟩:=yH (gB (by decide) h);exact (by decide:∀n:O,n<16->(4:J)<=n/\((n:J)<12\/(n:J)=15)->(n:J)=4\/(n:J)=5\/(n:J)=6\/(n:J)=7\/(n:J)=8\/(n:J)=9\/(n:J)=10\/(n:J)=11\/(n:J)=15) n (k.elim (λq=>bT (eZ.mp q) (by decide)) λq=>cM (dH (pY q)) (by decide)) ⟨h,k⟩
theorem il'{i:J}(h1: -1000000<i)(h2:i<1000000):i.natAbs<2^60:=by have h:(i.natAbs:J)<1000000:=(Int.natAbs_eq i).elim (λe=>e▸h2) λe=>Int.lt_of_neg_lt_neg (e▸h1);exact bT (eZ.mp h) (by decide)
theorem de{i:J}(h:i.natAbs<n):i<n:=qV Int.le_natAbs (eZ.mpr h)
theorem im'{k:O}(h:k<n-m):m<=n:=lO (Nat.lt_of_sub_pos (CY h))
theorem H9(h:a<=n):max 0 (min (a:J) (n:J))=a:=by rw[Int.min_eq_left (fV.mpr h),xg (eQ a)]
theorem dh{aD:O}(hl:s=aD-h):aD<=h+s:=hl▸zu.mp (cE _)
theorem ik'{h2:O}(hl:s+h2+x<=h+y)(hz:c+h+y<=m):c+s+h2+x<=m:=
 aL (by rw[gC c s,gC c];exact eR hl c) (aL (dH (gC ..).symm) hz)
theorem df{o h2:O}(h1:s+h2+y<=m)(h3:t+o+x<=h2+y):s+t+o+x<=m:=
 aL (by rw[gC s t,gC s,gC s];exact eR h3 s) h1
theorem dk(zK:a<=b)(hb:b<=n):min a n+m+(n-b)<=n+m:=by rw[hS];exact dP (aL (dP (aL (Nat.min_le_left ..) zK) _) (dH (JA hb))) m
theorem ij'{r l:O}: r-1+1+l+s+f<=r+l+s+f+1:=by rw[hS (r+l+s),hS (r+l),hS r];exact dP (dP (dP (dP (fW ..) 1) l) s) f
theorem dn{a:J}(h:1<=n)(e:a<(n:J)-1):a.toNat<n:=(xq h).mpr (mZ e (VO _ (by decide)))
theorem TC{k:O}(h:k<n)(hn:n<=16000000):(k:J)<2^63:=mZ (eZ.mpr (eP h hn)) (by decide)
theorem TD{i:J}{k:O}(e:i+n=k)(hn:n<=16000000): -(2^63)<=i:=
 gB (b:= -16000000) (by decide) (gB (Int.le_sub_right_of_add_le (gB (CR (fV.mpr hn) (-16000000)) (eQ k))) (Dq ((aW (· - (n:J)) e).symm.trans (Dp i n))))
theorem ih'{r d e:O}(hd:e+t=d)(hp:s+d<=r+d+t):s+e<=r+d:=zc (b:=t) (by rw[gC,hd];exact hp)
theorem dg{i:O}(q:p+1+a+1+b+1<=i):p+1+a<=i:=kT (aL (bU _ _) (kT q))
theorem TF{k:O}(h:a<=b+k):a+k*n<=b+k*(n+1):=by rw[PO,<-gC,hS];exact dP h _
theorem TE(h:a<=b+1)(g:c<=a+n):c<=b+(n+1):=aL g (aL (dP h _) (dH (hS b 1 n)))
theorem KU: p<p+1+a:=eP (iB p) (bU _ _)
end
variable{A:dO}{C N bK:bC}{Ct ap pt px sp:cZ}{L:Y (O×aC)}{M:FA}{T id:lA}{a c fh hi i iP m m' op x0 x1:J}{aH gH ls pl sc sq vs:Y J}{aN:aG aJ}{as ifs kC ts:Y aK}{b b' lp:aC}{bB d dN dd el ep h0 hb j k k' k2 r tk:O}{bI nm x:aU}{bX:Y (J×aJ)}{bs:Y (aU×aJ)}{dZ i' iX o' oO pc pe pf pi r' target value:aK}{dat:Y (O×O)}{ds:Y O}{eD:bC->Prop}{en:O->aG O}{env:fM}{gW ho:aG O}{h h' h1 hk:bS}{items:gN aJ}{kindOf:aU->aG jM}{kn:Y (aU×jM)}{ks:Y (aG aK)}{mt:Y (O×O×O)}{p:bC×aG bC}{pb:Y dK}{s:aV}{scope:oG}{vals:Y aJ}{vl vu w y:aJ}{α β:Type}
noncomputable abbrev PW:=qC'
noncomputable def vS(s:lA)(t:O):aJ:=.str (bR s) t
noncomputable def kY(i:O):dK:=(PW.main.body[i]?).getD (.Pass default)
noncomputable def cd(s:dK):aU×Y dK×Y aU×cZ:=match s with
 | .ClassDef c _ _ b _ _ _ _ _ st p=>(c,b,st,p)
 | _=>(Cb,[],[],default)
def KZ(i j:O):dK:=((cd (kY i)).2.1[j]?).getD (.Pass default)
noncomputable def fd(s:dK):Dn:=(DefRec.ofStmt? s).getD ⟨Cb,⟨[],[],aB,[],[],aB,[]⟩,[],⟨.function,[],aE,aE,[]⟩,default⟩
noncomputable def zi(i:J):aJ:=.int i 0
noncomputable def zr(n:O):aJ:=.ref n
noncomputable def zt(xs:Y aJ):gQ:=⟨.type "tuple",aB,.seq xs.toArray 0,#[]⟩
noncomputable def z0:gQ:=⟨.type "tuple",aB,.seq #[] 0,#[]⟩
noncomputable def ze:gQ:=⟨.none,aB,.fields #[],#[]⟩
noncomputable def TW{α:Type}: Y α->Y α
 | []=>[]
 | [x]=>[x]
 | x::_::r=>x::TW r
def Fh:O->Y gQ->BT
 | 0,_=>.nil
 | _,[]=>.nil
 | n+1,x::r=>.node x (Fh n (TW r)) (Fh n (TW r.tail))
noncomputable def Sr:Y (aU×jM)->Y aU
 | []=>[]
 | (x,.local)::r=>x::Sr r
 | _::r=>Sr r
noncomputable def zk:O->Y aU->Y aJ
 | _,[]=>[]
 | n,x::r=>.str x n::zk (n+1) r
noncomputable def fu(s:Dn)(pre:aU)(m cd:aJ)(g bi:O):gQ:=⟨if g=3 then .type "function" else .none,aB,.func {name:=s.name,qualname:=pre.append s.name,params:=s.params,body:=.stmts s.body,scope:=s.scope,globals:=g,closure:=[],defaults:=.none,kwdefaults:=.none,pyModule:=m,code:=cd,builtins:=bi},#[]⟩
def co(n q:aU)(t k l a d A:O)(e:aC)(v3 v4 v5:aJ):gQ:=⟨.type "code",aB,.fields #[.str n t,.str q (t+1),vS "/claim/cut.py" (t+2),zi l,zi a,zi 0,zi 0,zi d,zr A,.bool e,zi 181,zr (A+1),.none,v3,v4,v5,zi (t+k:O),zi l,vS "/claim/cut.py" (t+k+1)],#[]⟩
def nv(s:Dn)(b:aC):Y aU:=if b then Sr s.scope.names else []
def fb(v:aJ)(pre:aU)(s:Dn)(b:aC)(T A:O):Y gQ:=if b then
  [z0,ze,zt (zk (T+3) (nv s b)),z0,fu s pre .none .none 0 0,co s.name (pre.append s.name) T (3+(nv s b).length) s.pos.line s.params.args.length 3 A u (zr (A+2)) (zr (A+3)) (zr (A+4)),fu s pre v (zr (A+5)) 3 0]
 else [z0,ze,fu s pre .none .none 0 0,co s.name (pre.append s.name) T 3 s.pos.line s.params.args.length 3 A u .none .none (zr (A+2)),fu s pre v (zr (A+3)) 3 0]
def wC(g:O->dK)(sh:Y O):O->O->O->O->Y (Dn×aC×O×O)
 | 0,_,_,_=>[]
 | n+1,i,T,A=>(fd (g i),!sh.contains i,T,A)::wC g sh n (i+1) (T+6+(nv (fd (g i)) (!sh.contains i)).length) (A+if sh.contains i then 5 else 7)
def Bg(v:aJ)(pre:aU)(l:Y (Dn×aC×O×O)):Y gQ:=l.flatMap λe=>fb v pre e.1 e.2.1 e.2.2.1 e.2.2.2
noncomputable def eS(P:uA)(e:aU×O×aJ):E3:=⟨PyData.keyHash P e.1,.str e.1 e.2.1,e.2.2⟩
def eM(e:Dn×aC×O×O):aU×O×aJ:=(e.1.name,e.2.2.1+5+(nv e.1 e.2.1).length,zr (e.2.2.2+if e.2.1 then 6 else 4))
def eL(k:J)(e:Dn×aC×O×O):Y aJ:=[zi e.1.pos.line,zi k,zr (e.2.2.2+if e.2.1 then 5 else 3)]
def zD(P:uA)(l:Y (aU×O×aJ))(k:O):gQ:=⟨.type "dict",aB,.dict (l.map (eS P)).toArray k,#[]⟩
noncomputable def zF(l:Y aJ):gQ:=⟨.none,aB,.fields l.toArray,#[]⟩
noncomputable def zB(b:lA)(v:aJ):gQ:=⟨.type "builtin_function_or_method",aB,.fields #[.builtin b,v],#[]⟩
def zG(s:lA)(t:O)(v w x:aJ):gQ:=⟨.type "getset_descriptor",aB,.fields #[vS s t,v,w,x],#[]⟩
def zX(c d:O)(v:aJ):gQ:=⟨.type "frame",aB,.plain,#[Z (zr c),Z (zr 3),Z (zr d),aB,Z v,aB,Z (zr 0)]⟩
def zU(n:O):gQ:=⟨.type "super",aB,.fields #[zr n,zr n,zr n],#[]⟩
def zI(l:Y (J×O)):gQ:=zt (l.map λe=>.int e.1 e.2)
def zO(l:Y (J×O×O))(k:O):gQ:=⟨.type "dict",aB,.dict (l.map λe=>⟨e.1,.int e.1 e.2.1,zr e.2.2⟩).toArray k,#[]⟩
noncomputable def gs(l:Y (lA×O×aJ)):Y (aU×O×aJ):=l.map λe=>(bR e.1,e.2)
noncomputable def gI:O->Y (lA×J)->Y (aU×O×aJ)
 | _,[]=>[]
 | n,e::r=>(bR e.1,n+1,.int e.2 n)::gI (n+2) r
def cb(P:uA)(v:aJ)(i:O)(sh:Y O)(n T A t bD:O):Y gQ:=
  [zB "type.__prepare__" (.type "type"),zD P ([(bR "__module__",T+5,v),(bR "__qualname__",T+7,.str (cd (kY i)).1 (T+6)),(bR "__firstlineno__",T+9,.int (cd (kY i)).2.2.2.line (T+8))]++((wC (KZ i) sh n 0 (T+10) (A+6)).map eM++[(bR "__static_attributes__",t+(cd (kY i)).2.2.1.length,zr bD)])) (n+4),z0,
   if n=0 then ze else zF ((wC (KZ i) sh n 0 (T+10) (A+6)).flatMap (eL 4)),co (cd (kY i)).1 (cd (kY i)).1 T 3 (cd (kY i)).2.2.2.line 0 0 (A+2) aE .none .none .none,zX (A+4) (A+1) v] ++
  (Bg v ((cd (kY i)).1.append (bR ".")) (wC (KZ i) sh n 0 (T+10) (A+6)) ++
  [zt (zk t (cd (kY i)).2.2.1),zD P ([(bR "__module__",T+5,v),(bR "__firstlineno__",T+9,.int (cd (kY i)).2.2.2.line (T+8))]++((wC (KZ i) sh n 0 (T+10) (A+6)).map eM++[(bR "__static_attributes__",t+(cd (kY i)).2.2.1.length,zr bD),(bR "__dict__",t+(cd (kY i)).2.2.1.length+2,zr (bD+3)),(bR "__weakref__",t+(cd (kY i)).2.2.1.length+4,zr (bD+4)),(bR "__doc__",t+(cd (kY i)).2.2.1.length+5,.none)])) 4,
   ⟨.type "type",aB,.cls ⟨(cd (kY i)).1,[.type "object"],[zr (bD+2),.type "object"],bD+1,(cd (kY i)).1,u,[],[],aE,aB,aE⟩,#[aB,aB,Z (.str (cd (kY i)).1 (T-2)),Z (.str (cd (kY i)).1 (T+6)),Z (.builtin "object.__new__"),Z (.bool u)]⟩,
   zG "__dict__" (t+(cd (kY i)).2.2.1.length+1) (zr (bD+2)) (.builtin "function.__dict__") (.builtin "function.__dict__#set"),zG "__weakref__" (t+(cd (kY i)).2.2.1.length+3) (zr (bD+2)) (.builtin "ExceptionGroup.__weakref__") .none,
   zU (bD+2),zB "object.__init_subclass__" (zr (bD+2))])
def y0:=wC kY [] 1 0 187 15
def y1:=wC kY [] 3 10 227 24
def y2:=wC kY [88] 7 82 542 121
def y3:=wC kY [] 35 99 939 380
def y4:=wC kY [] 1 135 1321 628
def y5:=wC kY [144,146] 3 144 1720 914
def y6:=wC kY [] 1 148 1741 931
def y7:=wC kY [153] 16 150 1755 939
def v0:aJ:=vS "wasmcore.kinds" 194
def v1:aJ:=vS "wasmcore.faults" 396
def v2:aJ:=vS "wasmcore.rowparts" 443
def v3:aJ:=vS "wasmcore.rows" 594
def v4:aJ:=vS "wasmcore.modules" 1330
def v5:aJ:=vS "law_nm0168_02" 1739
noncomputable def Tq:Y (J×O×O):=[(0,249,393),(1,251,386),(2,253,400),(3,255,400),(4,257,407),(5,259,414),(11,261,421),(12,263,428),(13,265,435),(14,267,442),(15,596,449),(16,598,463),(18,269,463),(17,600,470),(19,271,470),(26,273,477),(27,602,484),(28,275,484),(32,277,491),(33,279,498),(34,281,505),(35,283,512),(36,285,519),(37,287,589),(38,289,596),(63,291,568),(65,295,526),(66,297,526),(208,299,533),(209,301,540),(210,303,547),(64520,305,582),(64521,307,575),(64522,309,582),(64523,311,582),(64524,313,582),(64525,315,575),(64526,317,582),(64527,319,603),(64528,321,610),(64529,323,582)]
def fl:Y aJ:=y0.flatMap (eL 0)++(y1.flatMap (eL 0)++([zi 64,zi 0,zr 71,zi 69,zi 0,zr 91,zi 96,zi 0,zr 105]++(y2.flatMap (eL 0)++([zi 140,zi 0,zr 174,zi 151,zi 0,zr 195]++(y3.flatMap (eL 0)++(y4.flatMap (eL 0)++([zi 530,zi 0,zr 640,zi 540,zi 0,zr 668,zi 549,zi 0,zr 696,zi 558,zi 0,zr 724,zi 570,zi 0,zr 750,zi 580,zi 0,zr 778,zi 589,zi 0,zr 806]++(y5.flatMap (eL 0)++(y6.flatMap (eL 0)++(y7.flatMap (eL 0)))))))))))
def gl:Y (aU×O×aJ):=gs [("__doc__",166,.none),("__package__",167,.none),("__loader__",168,(.builtin "__main__.__loader__#opaque")),("__spec__",169,.none),("__annotations__",170,(zr 6)),("__builtins__",171,(zr 4)),("__file__",173,(vS "/claim/cut.py" 172)),("__cached__",174,.none)]++(y0.map eM++(gs [("I32",198,(.int (-1) 197)),("I64",201,(.int (-2) 200)),("FUNCREF",204,(.int (-16) 203)),("EXTERNREF",207,(.int (-17) 206)),("EMPTY",210,(.int (-64) 209)),("FUNCTION",212,(.int (0) 211)),("KIND_NAMES",221,(zr 22)),("HEAP_NAMES",226,(zr 23))]++(y1.map eM++(gI 249 [("UNREACHABLE",0),("NOP",1),("BLOCK",2),("LOOP",3),("IF",4),("ELSE",5),("END",11),("BR",12),("BR_IF",13),("BR_TABLE",14),("RETURN_CALL",18),("RETURN_CALL_INDIRECT",19),("DROP",26),("SELECT_KINDS",28),("LOCAL_GET",32),("LOCAL_SET",33),("LOCAL_TEE",34),("GLOBAL_GET",35),("GLOBAL_SET",36),("TABLE_GET",37),("TABLE_SET",38),("MEMORY_SIZE",63),("MEMORY_GROW",64),("I32_CONST",65),("I64_CONST",66),("REF_NULL",208),("REF_IS_NULL",209),("REF_FUNC",210),("MEMORY_INIT",64520),("DATA_DROP",64521),("MEMORY_COPY",64522),("MEMORY_FILL",64523),("TABLE_INIT",64524),("ELEM_DROP",64525),("TABLE_COPY",64526),("TABLE_GROW",64527),("TABLE_SIZE",64528),("TABLE_FILL",64529)]++(gs [("LOADS",373,(zr 45)),("STORES",395,(zr 58)),("WasmFault",426,(zr 82)),("Misused",442,(zr 95))]++(gI 445 [("MOVE",256),("CONST",257),("SELECT",258),("JUMP",259),("JUMP_IF",260),("JUMP_UNLESS",261),("JUMP_TABLE",262),("CALL",263),("CALL_INDIRECT",264),("TAIL",265),("TAIL_INDIRECT",266),("RETURN",267),("ON",4096),("OFF",8192),("TWO_N",16384),("ON_N",20480),("OFF_N",24576),("EQZ_32",69),("EQZ_64",80),("LAST_COMPARE",90),("LAST_NUMBER_CODE",196)]++(gs [("ONE_PLACES",501,(zr 98)),("GOAL_CODES",502,(zr 99)),("MOST_THREADS",504,(.int (8) 503)),("Rows",541,(zr 116))]++(y2.map eM++(gI 596 [("WASM_RETURN",15),("WASM_CALL",16),("WASM_CALL_INDIRECT",17),("WASM_SELECT",27),("PLACE",0),("NUMBER",1)]++(gs [("TURNABLE",622,(zr 168)),("Frame",661,(zr 185)),("Compiler",938,(zr 375))]++(y3.map eM++(gs [("DOERS",1320,(zr 625))]++(y4.map eM++(gs [("Import",1373,(zr 658)),("Func",1413,(zr 686)),("Global",1453,(zr 714)),("Elem",1496,(zr 740)),("Data",1538,(zr 768)),("Custom",1578,(zr 796)),("Module",1719,(zr 909))]++(y5.map eM++(y6.map eM++(gs [("_law_twos",1754,(zr 938))]++(y7.map eM))))))))))))))))))
def ob(P:uA):Y gQ:=[z0,zF fl,co (bR "<module>") (bR "<module>") 182 3 1 0 0 11 aE .none .none .none,zX 13 3 (vS "__main__" 164)]++(Bg (vS "__main__" 164) Cb y0++([⟨.type "dict",aB,(.dict #[⟨(-2),.int (-1) 197,(vS "i32" 213)⟩,⟨(-2),.int (-2) 200,(vS "i64" 214)⟩,⟨(-16),.int (-16) 203,(vS "funcref" 215)⟩,⟨(-17),.int (-17) 206,(vS "externref" 216)⟩] 4),#[]⟩,⟨.type "dict",aB,(.dict #[⟨(-16),.int (-16) 203,(vS "func" 222)⟩,⟨(-17),.int (-17) 206,(vS "extern" 223)⟩] 2),#[]⟩]++(Bg v0 Cb y1++([zO [(40,325,46),(41,328,47),(44,331,48),(45,334,49),(46,337,50),(47,340,51),(48,343,52),(49,346,53),(50,349,54),(51,352,55),(52,355,56),(53,358,57)] 12,zI [(-1,197),(4,326),(0,327)],zI [(-2,200),(8,329),(0,330)],zI [(-1,197),(1,332),(1,333)],zI [(-1,197),(1,335),(0,336)],zI [(-1,197),(2,338),(1,339)],zI [(-1,197),(2,341),(0,342)],zI [(-2,200),(1,344),(1,345)],zI [(-2,200),(1,347),(0,348)],zI [(-2,200),(2,350),(1,351)],zI [(-2,200),(2,353),(0,354)],zI [(-2,200),(4,356),(1,357)],zI [(-2,200),(4,359),(0,360)],zO [(54,374,59),(55,376,60),(58,378,61),(59,380,62),(60,382,63),(61,384,64),(62,386,65)] 7,zI [(-1,197),(4,375)],zI [(-2,200),(8,377)],zI [(-1,197),(1,379)],zI [(-1,197),(2,381)],zI [(-2,200),(1,383)],zI [(-2,200),(2,385)],zI [(-2,200),(4,387)],zt [.type "Exception"],zB "type.__prepare__" (.type "type"),zD P (gs [("__module__",405,v1),("__qualname__",407,(vS "WasmFault" 406)),("__firstlineno__",409,(.int (64) 408)),("__init__",417,(zr 79)),("__static_attributes__",419,(zr 80))]) 5,z0,zF [zi 66,zi 4,zr 78],co (bR "WasmFault") (bR "WasmFault") 400 3 64 0 0 69 aE .none .none .none,zX 71 68 v1]++(Bg v1 (bR "WasmFault.") (wC (KZ 54) [] 1 0 410 73)++([zt (zk 418 [bR "why"]),zD P (gs [("__module__",405,v1),("__firstlineno__",409,(.int (64) 408)),("__init__",417,(zr 79)),("__static_attributes__",419,(zr 80)),("__weakref__",421,(zr 83)),("__doc__",422,.none)]) 3,⟨.type "type",aB,(.cls ⟨"WasmFault",[.type "Exception"],[zr 82,.type "Exception",.type "BaseException",.type "object"],81,"WasmFault",u,[],[zr 95],aE,aB,aE⟩),#[(Z (zr 66)),aB,(Z (vS "WasmFault" 398)),(Z (vS "WasmFault" 406)),(Z (.builtin "Exception.__new__")),(Z (.bool u))]⟩,zG "__weakref__" 420 (zr 82) (.builtin "ExceptionGroup.__weakref__") .none,zU 82,zB "object.__init_subclass__" (zr 82),zt [zr 82],zB "type.__prepare__" (.type "type"),zD P (gs [("__module__",434,v1),("__qualname__",436,(vS "Misused" 435)),("__firstlineno__",438,(.int (69) 437)),("__static_attributes__",439,(zr 93))]) 4,z0,ze,co (bR "Misused") (bR "Misused") 429 3 69 0 0 89 aE .none .none .none,zX 91 88 v1,z0,zD P (gs [("__module__",434,v1),("__firstlineno__",438,(.int (69) 437)),("__static_attributes__",439,(zr 93)),("__doc__",440,.none)]) 2,⟨.type "type",aB,(.cls ⟨"Misused",[zr 82],[zr 95,zr 82,.type "Exception",.type "BaseException",.type "object"],94,"Misused",u,[],[],aE,aB,aE⟩),#[(Z (zr 86)),aB,(Z (vS "Misused" 427)),(Z (vS "Misused" 435)),(Z (.builtin "Exception.__new__")),(Z (.bool u))]⟩,zU 95,zB "object.__init_subclass__" (zr 95),zI [(69,479),(80,481),(103,487),(104,488),(105,489),(121,490),(122,491),(123,492),(167,493),(172,494),(173,495),(192,496),(193,497),(194,498),(195,499),(196,500),(64,293)],zI [(35,283),(37,287),(63,291),(64,293),(209,301),(210,303),(64528,321),(256,445),(257,447)],z0]++(cb P v2 81 [] 1 507 101 529 114++(Bg v2 Cb y2++([zI [(70,608),(71,609),(81,610),(82,611),(106,612),(108,613),(113,614),(114,615),(115,616),(124,617),(126,618),(131,619),(132,620),(133,621)],z0]++(cb P v3 97 [] 1 625 170 646 183++([z0]++(cb P v3 98 [15,20,24] 26 664 191 919 373++(Bg v3 Cb y3++([zO Tq 41,zO ((Tq.drop 17).take 17) 17,zO (Tq.drop 34) 7]++(Bg v3 Cb y4++([z0]++(cb P v4 137 [] 2 1334 636 1362 656++([z0]++(cb P v4 138 [] 2 1376 664 1403 684++([z0]++(cb P v4 139 [] 2 1416 692 1443 712++([z0]++(cb P v4 140 [1] 2 1456 720 1484 738++([z0]++(cb P v4 141 [] 2 1499 746 1527 766++([z0]++(cb P v4 142 [] 2 1541 774 1568 794++([z0]++(cb P v4 143 [2,3,14] 15 1581 802 1701 907++(Bg v4 Cb y5++(Bg v5 Cb y6++([zI [(106,1747),(107,1748),(108,1749),(115,1750),(118,1751),(70,1752),(73,1753)]]++(Bg v5 Cb y7)))))))))))))))))))))))))))))))))
def IF(P:uA):Y gQ:=[V0 P,V1 P,⟨.none,aB,(.dict ((gs [("type.__subclasses__.Exception.0",423,zi 82),("type.__subclasses__.Exception.n",424,zi 1)]).map (eS P)).toArray 2),#[]⟩,zD P ((bR "__name__",165,v5)::gl) 169,V5 P,V6 P,V7 P,V8 P,V9 P,WA P,V3 P]++(ob P)
noncomputable def pd'(P:uA):BT:=(.node (V0 P) (.node (V1 P) (.node (boot_o_3 P) (.node (V8 P) .nil .nil) .nil) (.node (V6 P) (.node (WA P) .nil .nil) .nil)) (.node (V4 P) (.node (V5 P) (.node (V9 P) .nil .nil) .nil) (.node (V7 P) (.node (V3 P) .nil .nil) .nil)))
def Wh(w:jS)(os:mL):G5:=⟨pd' w.params,11,{},#[],vI,181,os⟩
def pD'(P:uA):BT:=(.node (V0 P) (.node (V1 P) (.node (boot_o_3 P) (.node (V8 P) .nil .nil) (.node (z0) .nil .nil)) (.node (V6 P) (.node (WA P) .nil .nil) (.node (co (bR "<module>") (bR "<module>") 182 3 1 0 0 11 aE .none .none .none) .nil .nil))) (.node (V4 P) (.node (V5 P) (.node (V9 P) .nil .nil) (.node (ze) .nil .nil)) (.node (V7 P) (.node (V3 P) .nil .nil) (.node (zX 13 3 (vS "__main__" 164)) .nil .nil))))
def FY(w:jS)(os:mL):G5:=⟨pD' w.params,15,{},#[],vI,187,os⟩
def t1(P:uA):BT:=Fh 11 (((((IF P).take 66).set 3 (zD P ((bR "__name__",165,v0)::gl.take 60) 61)).set 12 (⟨.none,aB,(.fields (fl.take 12).toArray),#[]⟩)).set 2 (V4 P))
def S1(w:jS)(os:mL):G5:=⟨t1 w.params,66,{},#[],vI,396,os⟩
def t2(P:uA):BT:=Fh 11 ((((IF P).take 380).set 3 (zD P ((bR "__name__",165,v3)::gl.take 103) 104)).set 12 (⟨.none,aB,(.fields (fl.take 48).toArray),#[]⟩))
def S2(w:jS)(os:mL):G5:=⟨t2 w.params,380,{},#[],vI,939,os⟩
def t3(P:uA):BT:=Fh 11 ((((IF P).take 625).set 3 (zD P ((bR "__name__",165,v3)::gl.take 138) 139)).set 12 (⟨.none,aB,(.fields (fl.take 153).toArray),#[]⟩))
def S3(w:jS)(os:mL):G5:=⟨t3 w.params,625,{},#[],vI,1279,os⟩
def t4(P:uA):BT:=Fh 11 ((((IF P).take 628).set 3 (zD P ((bR "__name__",165,v3)::gl.take 139) 140)).set 12 (⟨.none,aB,(.fields (fl.take 153).toArray),#[]⟩))
def S4(w:jS)(os:mL):G5:=⟨t4 w.params,628,{},#[],vI,1321,os⟩
def t5(P:uA):BT:=Fh 11 ((IF P).take 1049)
def S5(w:jS)(os:mL):G5:=⟨t5 w.params,1049,{},#[],vI,1949,os⟩
def H1(P:uA):bS:=⟨⟨IF P⟩,{}⟩
noncomputable abbrev pK:aG aJ:=Z (.ref 6)
noncomputable def tK:yG:= {scope:=PW.main.scope,locals:=mainNs,globals:=mainNs,cells:=[],code:=.ref 13,frame:=Z 14}
def kD:Code:=.body (Vz PW) tK
noncomputable abbrev B0:Y Frame:=[topFrame default]
noncomputable def ps(a b c d:O):cZ:=⟨a,b,c,d⟩
theorem cL'(w:jS)(os:mL):(Wh w os).abs=⟨Dz w.params,#[],vI,PX,os⟩:=by kernel_rfl
theorem ke'(w:jS)(os:mL):topGo BR PW w 11 pK 12 (Wh w os).abs (topStub PW)=Z ((FY w os).abs,⟨denote BR kD,kD,ps 0 0 0 0,B0⟩):=by kernel_rfl
theorem cC'(w:jS)(os:mL):segRun BR PW w 11 pK 1 1 (FY w os).abs (blockOf (Vz PW) tK kD (ps 0 0 0 0) B0)=Z (vD,(FY w os).abs,kD,ps 0 0 0 0):=by kernel_rfl
noncomputable def l1:Y dK:=(PW.main.body.drop 0).take 53
theorem mG'(w:jS)(os:mL):Dw Dx PW (w.withFollow "special-get-raises" aE) 11 pK 1 1014 (FY (w.withFollow "special-get-raises" aE) os) (wT l1 tK kD (ps 0 0 0 0) B0)=Z (vD,S1 (w.withFollow "special-get-raises" aE) os,kD,ps 62 0 62 6):=by kernel_rfl
theorem mH'(w:jS)(os:mL):Dw Dx PW (w.withFollow "special-get-raises" u) 11 pK 1 1014 (FY (w.withFollow "special-get-raises" u) os) (wT l1 tK kD (ps 0 0 0 0) B0)=Z (vD,S1 (w.withFollow "special-get-raises" u) os,kD,ps 62 0 62 6):=by kernel_rfl
theorem mF'(w:jS)(os:mL):Lk BR PW w 11 pK 1 1014 (FY w os) (wT l1 tK kD (ps 0 0 0 0) B0)=Z (vD,S1 w os,kD,ps 62 0 62 6):=by rw[Ld,Le];exact byRow2 "special-get-raises" (P:=λw=>Dw Dx PW w 11 pK 1 1014 (FY w os) (wT l1 tK kD (ps 0 0 0 0) B0)=Z (vD,S1 w os,kD,ps 62 0 62 6)) (λw=>mG' w os) (λw=>mH' w os) w
noncomputable def l2:Y dK:=(PW.main.body.drop 53).take 46
theorem mJ'(w:jS)(os:mL):Dw Dx PW w 11 pK 1 2533 (S1 w os) (wT l2 tK kD (ps 62 0 62 6) B0)=Z (vD,S2 w os,kD,ps 151 0 327 37):=by kernel_rfl
theorem mI'(w:jS)(os:mL):Lk BR PW w 11 pK 1 2533 (S1 w os) (wT l2 tK kD (ps 62 0 62 6) B0)=Z (vD,S2 w os,kD,ps 151 0 327 37):=by rw[Ld,Le];exact mJ' w os
noncomputable def l3:Y dK:=(PW.main.body.drop 99).take 35
theorem mL'(w:jS)(os:mL):Dw Dx PW w 11 pK 1 1111 (S2 w os) (wT l3 tK kD (ps 151 0 327 37) B0)=Z (vD,S3 w os,kD,ps 511 0 522 58):=by kernel_rfl
theorem mK'(w:jS)(os:mL):Lk BR PW w 11 pK 1 1111 (S2 w os) (wT l3 tK kD (ps 151 0 327 37) B0)=Z (vD,S3 w os,kD,ps 511 0 522 58):=by rw[Ld,Le];exact mL' w os
noncomputable def l4:Y dK:=(PW.main.body.drop 134).take 1
theorem mN'(w:jS)(os:mL):Dw Dx PW (w.withFollow "special-get-raises" aE) 11 pK 1 784 (S3 (w.withFollow "special-get-raises" aE) os) (wT l4 tK kD (ps 511 0 522 58) B0)=Z (vD,S4 (w.withFollow "special-get-raises" aE) os,kD,ps 523 0 523 5):=by kernel_rfl
theorem mO'(w:jS)(os:mL):Dw Dx PW (w.withFollow "special-get-raises" u) 11 pK 1 784 (S3 (w.withFollow "special-get-raises" u) os) (wT l4 tK kD (ps 511 0 522 58) B0)=Z (vD,S4 (w.withFollow "special-get-raises" u) os,kD,ps 523 0 523 5):=by kernel_rfl
theorem mM'(w:jS)(os:mL):Lk BR PW w 11 pK 1 784 (S3 w os) (wT l4 tK kD (ps 511 0 522 58) B0)=Z (vD,S4 w os,kD,ps 523 0 523 5):=by rw[Ld,Le];exact byRow2 "special-get-raises" (P:=λw=>Dw Dx PW w 11 pK 1 784 (S3 w os) (wT l4 tK kD (ps 511 0 522 58) B0)=Z (vD,S4 w os,kD,ps 523 0 523 5)) (λw=>mN' w os) (λw=>mO' w os) w
noncomputable def l5:Y dK:=(PW.main.body.drop 135).take 31
theorem mQ'(w:jS)(os:mL):Dw Dx PW w 11 pK 1 2931 (S4 w os) (wT l5 tK kD (ps 523 0 523 5) B0)=Z (vD,S5 w os,kD,ps 869 0 877 35):=by kernel_rfl
theorem mP'(w:jS)(os:mL):Lk BR PW w 11 pK 1 2931 (S4 w os) (wT l5 tK kD (ps 523 0 523 5) B0)=Z (vD,S5 w os,kD,ps 869 0 877 35):=by rw[Ld,Le];exact mQ' w os
theorem cH':Vz PW=l1++(l2++(l3++(l4++(l5++([]))))):=by kernel_rfl
theorem hB'(w:jS)(s:aV)(env:yG)(c:Code)(p:cZ):topRun BR PW w 11 pK 2 s (restOf [] env c p B0)=Z s:=by obtain⟨h,g,d,t,os⟩:=s;rfl
theorem pC'(w:jS)(os:mL):topRun BR PW w 11 pK (12+(1+(1014+(2533+(1111+(784+(2931+2))))))) ⟨Dz w.params,#[],vI,PX,os⟩ (topStub PW)=Z (S5 w os).abs:=by rw[<-cL'];refine go_top (ke' w os) ?_;refine piece_block (cC' w os) ?_;rw[cH'];refine Li (Ll (mF' w os)) ?_;refine Li (Ll (mI' w os)) ?_;refine Li (Ll (mK' w os)) ?_;refine Li (Ll (mM' w os)) ?_;refine Li (Ll (mP' w os)) ?_;exact hB' w _ _ _ _
theorem en'(w:jS)(os:mL):(S5 w os).abs=⟨H1 w.params,#[],vI,1949,os⟩:=by kernel_rfl
noncomputable abbrev lG:=qD'
def CN:PU:= {PW with main:= {PW.main with body:=[kY 165]}}
noncomputable def KS:Y aU:=(PW.boundNames.filter λn=>n != bR "law")
def Py(s:aV):aC:=xlAt CN [] s&&recOk (RowW.records lG.row.toRowW) s
theorem mE'(w:jS)(os:mL):openSeen CN KS (WL PW.main.body) Py u ⟨H1 w.params,#[],vI,1949,os⟩=openGood CN KS:=by rw[Fast.te4187177175401517315];kernel_rfl
theorem nz'(w:jS):((Dz w.params).isNs WN&&(#[]:gN GenState).size==0,(Dz w.params).objs.size,(Dz w.params).nsMap WN "__annotations__")=(u,11,pK):=by kernel_rfl
theorem hX'(w:jS)(os:mL):(staticsOk (WL PW.main.body) (Dz w.params) (H1 w.params)&&namesBound PW (H1 w.params)&&gensDone ⟨H1 w.params,#[],vI,1949,os⟩&&laidKept (Dz w.params) (H1 w.params))=u:=by kernel_rfl
theorem cK'(w:jS):Vr (λs=>(s.heap,s.gens,s.drawn,s.toks)) (fencedOpening BR PW w 17000)=Z (Dz w.params,#[],vI,PX):=boot_open (by kernel_rfl) (by decide) (λs=>by kernel_rfl) w
theorem hH':LeftO PW CN KS Py (λs=>s.heap) (λw=>H1 w.params) 17000:=
 LeftO.of_pieces (H₀:=Dz) (H₁:=H1) (gs₀:= #[]) (gs₁:= #[]) (d₀:=vI) (d₁:=vI) (k₀:=PX) (k₁:=1949) (m₀:=11) (ann:=pK) (M:=(12+(1+(1014+(2533+(1111+(784+(2931+2)))))))) cK' nz'
  (λw os=>by rw[pC' w os,en' w os]) (by decide) (λw=>by
   funext os;show (_,_,_)=(_,_,_);rw[hX' w os,mE' w os])
def d1:Dn:=fd (kY 165)
theorem dF':W.defOf CN (G4 lG).name=Z (d1,[]):=by kernel_rfl
theorem pi':PW.theDef (G4 lG).name=Z (d1.params,d1.body,d1.scope):=by kernel_rfl
theorem kw1:kwWritten? d1.params.kwonlyargs d1.params.kw_defaults=Z []:=by kernel_rfl
theorem ok1:(chainsOk CN&&opensWell PW&&(frees (G4 lG).toRowW&&(G4 lG).within.isEmpty))=u:=by decide +kernel
theorem cp':PW.bare:=⟨rfl,rfl,rfl,rfl,rfl,by decide +kernel⟩
theorem an{a:aC}(h:a=u)(k:b=u):(a&&b)=u:=by rw[h,k];rfl
theorem zR:sreFenced PW.main=u:=by rw[Fast.te11788848310118352699];kernel_rfl
theorem lk1:((moduleNames PW.main.body).isEmpty||lookedIntoSs (moduleNames PW.main.body) PW.main.body)=u:=by rw[Fast.te12862048085361865435];kernel_rfl
theorem lk2:namesResolve PW=u:=by rw[Fast.te8377067652309620493];kernel_rfl
theorem lk3:PW.boundNames.all (λn=> !worldNames.contains n)=u:=by kernel_rfl
theorem lk5:(Pc PW PW.main.body λ_ n=>attrL n)=u:=by rw[Fast.te17119622794617984870];kernel_rfl
theorem lk4:noRoadLSs {strict:= !(WL PW.main.body).all cThrough.contains,foot:=aB,bare:=(["vars","dir","locals"]:Y aU).filter (readsOut PW PW.main.body)} PW.main.body=u:=by rw[Fast.te8326940854005059898];kernel_rfl
theorem hU':looksOpen PW=u:=by unfold looksOpen;exact an (an (an (an (an zR lk1) lk2) lk3) lk4) lk5
theorem jV':(G4 lG).partSaid=u:=by unfold OpenRow.partSaid;refine (an (an (an (an (an (an (an (an (an (an (an (an (an hU' ?_) ?_) ?_) ?_) ?_) ?_) ?_) ?_) ?_) ?_) ?_) ?_) ?_);all_goals kernel_rfl
theorem kH':(G4 lG).wellSaid=u:=by unfold OpenRow.wellSaid;refine (an (an jV' ?_) ?_);all_goals kernel_rfl
theorem lq6:noRoadLSs {strict:=u,foot:=Z lG.bound',writes:=lG.writes,may:=lG.may} lG.footing=u:=by kernel_rfl
theorem lq8:lG.namesIt=u:=by rw[Fast.te16286561074155671207];kernel_rfl
theorem ib':lG.bound'.all (λn=> !builtinNamed n||lG.about==[n] || !lG.reads n)=u:=by rw[Fast.te6984425678791042302];kernel_rfl
theorem ic':(Pc lG.prog lG.footing (λsc n=>(!(["type","isinstance","issubclass","getattr","hasattr"]:Y aU).contains n||sc.names.lookup n==Z .globalImplicit) &&
  (lG.may != Z n||sc.kind== .module||sc.names.lookup n==Z .globalImplicit)))=u:=by kernel_rfl
theorem id':(Pc lG.prog lG.above (λ_ n=> !lG.own.contains n))=u:=by kernel_rfl
theorem ie':(Pc lG.prog lG.footing λsc n=>sc.kind== .module||sc.names.lookup n != Z .globalExplicit)=u:=by kernel_rfl
theorem ms':lG.wellSaid=u:=by unfold OpenLaw.wellSaid;refine (an (an (an (an (an (an (an (an (an (an (an (an (an (an (an (an (an (an kH' ?_) ?_) ?_) ?_) ?_) lq6) ?_) lq8) ?_) ib') ?_) ?_) ic') ?_) ?_) ?_) id') ie');all_goals kernel_rfl
theorem fl'(walk:WalkO CN KS (XL CN []) (λw h=>∀b o,(H1 w.params).get? b=Z o->h.get? b=Z o) (G4 lG).toRowW d1 [] λf vs=>call f vs):lG.Holds:=by
 w_on
 refine holds_law ms' λmr'=>?_;refine W.holds_open (q:=CN) (loose:=KS) (Xt:=Py) (XP:=XL CN []) (Yf:=λs=>s.heap) (Ya:=λw=>H1 w.params) (YP:=λw h=>∀b o,(H1 w.params).get? b=Z o->h.get? b=Z o) (N:=17000) hH'
  (λw s e b o h=>by rw[<-e]at h;exact h) (λw h h' x k b o e=>k b o (x b o e)) (λs e=>xl_of s (AM.mp e).1) XL.keeps dF' pi' kw1 (λs e=>recFacts_of (AM.mp e).2) (by rfl) mr' ok1 cp' ?_ walk
 exact⟨[.list [.int 3,.int 1]],by decide +kernel,by decide +kernel⟩
section
variable{a:O}{c:aC}{p:Prop}
set_option genCtorIdx false
set_option genSizeOf false
set_option genSizeOfSpec false
inductive V where
 | none|bool (b:aC)|int (i:J)|str (s:lA)|aM (xs:Y V)|ref (a:O)|g (n:O)|gG (lo hi:J)
variable{v:V}
inductive bY where
 | list(xs:Y V)
 | dict(es:Y (J×V))(ep:aG O)
 | inst(c:O)(fs:Y (O×V))
variable{o:bY}
abbrev Hp:=Y bY
variable{h:Hp}
inductive E where
 | eT(v:V)
 | D(i:O)
 | bO(op:wR)(a b:E)
 | neg(a:E)
 | not(a:E)
 | and(es:Y E)
 | or(es:Y E)
 | bJ(op:JF)(a b:E)
 | xE(A0 uU:JF)(a b c:E)
 | ite(c t f:E)
 | aM(es:Y E)
 | list(es:Y E)
 | dict(bX:Y E)
 | bI(o:E)(a:O)
 | aY(o i:E)
 | oO(o lo hi:E)
 | call(f:E)(args:Y E)
 | aX(o:E)(m:O)(args:Y E)
 | comp(dY:E)(dN:O)(iter:E)
 | Bd(dY:E)(dN:O)(iter cond:E)
noncomputable abbrev E.n(i:J):E:=.eT (.int i)
noncomputable abbrev E.gl(i:O):E:=.eT (.g i)
inductive bD where
 | expr(e:E)
 | cU(i:O)(e:E)
 | jE(is:Y O)(e:E)
 | dU(o:E)(a:O)(e:E)
 | sA(o i e:E)
 | Jd(o lo hi e:E)
 | AX(i:O)(op:wR)(e:E)
 | Je(o i:E)(op:wR)(e:E)
 | cP(c:E)(t f:Y bD)
 | vC(c:E)(b:Y bD)
 | rE(dN:O)(it:E)(b:Y bD)
 | HW(dN:O)(it:E)(b:Y bD)
 | HX(tj:Y O)(it:E)(b:Y bD)
 | Jr(i x:O)(l:E)(b:Y bD)
 | ret(e:E)
 | DW
 | A1
 | cont
 | fail
inductive Lo where|len|min|max|range|list|tuple|sum|Tr (n:O)
inductive Kind where
 | fn(np:O)(nv:O)(body:Y bD)
 | cls(gR:O)
 | blt(b:Lo)
 | rD(es:Y (J×V))
 | sH(xs:Y J)
 | kX
structure Cx where
 kind:O->Kind
 aX:O->O->aG O
 qF:O->O->aC
 fr:O->aC
theorem cI{x:α}(h:(aB:aG α)=Z x):p:=nomatch h
noncomputable def bE{α β:Type}(r:aG α)(f:α->aG β):aG β:=match r with
 | some x=>f x
 | none=>aB
theorem dD{r:aG α}{f:α->aG β}{y:β}(h:bE r f=Z y):fQ (λx=>r=Z x) (λx=>f x=Z y):=by
 cases r with
 | none=>exact cI h
 | some x=>exact⟨x,rfl,h⟩
theorem pB{r:aG α}{x:α}{f:α->aG β}(h:r=Z x):bE r f=f x:=by rw[h];rfl
noncomputable def eU{β:Type}(c:aC)(x:aG β):aG β:=match c with
 | true=>x
 | false=>aB
theorem iY{x:aG β}{y:β}(h:eU c x=Z y):c=u/\x=Z y:=by
 cases c with
 | false=>exact cI h
 | true=>exact⟨rfl,h⟩
theorem pC{x:aG β}(h:c=u):eU c x=x:=by rw[h];rfl
noncomputable def tW:V->aG aC
 | .bool b=>Z b
 | _=>aB
noncomputable def kK:V->aG J
 | .int i=>Z i
 | _=>aB
noncomputable def rR:V->aG O
 | .ref a=>Z a
 | _=>aB
theorem Oh(h:tW v=Z b):v= .bool b:=by cases v<;>first|exact cI h|exact aW V.bool (aT h)
theorem mW(h:kK v=Z i):v= .int i:=by cases v<;>first|exact cI h|exact aW V.int (aT h)
theorem yD{i:O}(h:rR v=Z i):v= .ref i:=by cases v<;>first|exact cI h|exact aW V.ref (aT h)
noncomputable def qN:bY->aG (Y V)
 | .list xs=>Z xs
 | .dict _ _=>aB
 | .inst _ _=>aB
noncomputable def QU:bY->aG (Y (J×V)×aG O)
 | .list _=>aB
 | .dict es ep=>Z (es,ep)
 | .inst _ _=>aB
noncomputable def B3:bY->aG (O×Y (O×V))
 | .list _=>aB
 | .dict _ _=>aB
 | .inst c fs=>Z (c,fs)
theorem if'{xs:Y V}(h:qN o=Z xs):o= .list xs:=by cases o<;>first|exact cI h|exact aW bY.list (aT h)
theorem dD'{p}(h:QU o=Z p):o= .dict p.1 p.2:=by cases o<;>first|exact cI h|(cases aT h;rfl)
theorem gA'{p}(h:B3 o=Z p):o= .inst p.1 p.2:=by cases o<;>first|exact cI h|(cases aT h;rfl)
def lK(h:Hp)(a:O):aG (Y V):=bE h[a]? qN
def Be(h:Hp)(a:O):aG (Y (J×V)×aG O):=bE h[a]? QU
def NN(h:Hp)(a:O):aG (O×Y (O×V)):=bE h[a]? B3
theorem wG{xs:Y V}(e:lK h a=Z xs):h[a]?=Z (.list xs):=by obtain⟨o,h1,h2⟩:=dD e;rw[h1,if' h2]
theorem MP{p}(e:Be h a=Z p):h[a]?=Z (.dict p.1 p.2):=by obtain⟨o,h1,h2⟩:=dD e;rw[h1,dD' h2]
theorem gB'{p}(e:NN h a=Z p):h[a]?=Z (.inst p.1 p.2):=by obtain⟨o,h1,h2⟩:=dD e;rw[h1,gA' h2]
def bZ{α:Type}(o:aG α)(Q:α->Prop):Prop:=match o with
 | some x=>Q x
 | none=>False
theorem bZ.ok{o:aG α}{Q:α->Prop}(h:bZ o Q):fQ (λx=>o=Z x) Q:=by
 cases o with
 | none=>exact h.elim
 | some x=>exact⟨x,rfl,h⟩
theorem bZ.of{o:aG α}{x:α}{Q:α->Prop}(e:o=Z x)(h:Q x):bZ o Q:=by rw[e];exact h
noncomputable def cW{β:Sort aN}(c:aC)(x y:β):β:=match c with
 | true=>x
 | false=>y
theorem KM(h:cW c p False):c=u/\p:=by
 cases c with
 | true=>exact⟨rfl,h⟩
 | false=>exact h.elim
mutual
def pF:V->V->O->aG aC
 | .none,.none,_=>Z u
 | .bool a,.bool b,_=>Z (a==b)
 | .int a,.int b,_=>Z (a==b)
 | .str a,.str b,_=>Z (a==b)
 | .aM xs,.aM ys,n+1=>lE xs ys n
 | _,_,_=>Vt
def lE:Y V->Y V->O->aG aC
 | [],[],_=>Z u
 | [],_::_,_=>Z aE
 | _::_,[],_=>Z aE
 | x::xs,y::ys,n=>bE (pF x y n) λa=>bE (lE xs ys n) λb=>Z (a&&b)
end
def M2(h:Hp)(x y:V):aG aC:=match rR x with
 | some a=>bE (rR y) λb=>bE (lK h a) λxs=>bE (lK h b) λys=>if xs.length=ys.length then lE xs ys 20 else Z aE
 | none=>pF x y 20
noncomputable def jR(i:J):aC:=decide (i.natAbs<2^60)
noncomputable def HL(a b:J):J:=if 0<=a/\0<=b then ((a.toNat &&& b.toNat:O):J) else 0
noncomputable def IK(a b:J):J:=if 0<=a/\0<=b then ((a.toNat ||| b.toNat:O):J) else 0
def CP(a b:J):J:=IK a b-HL a b
noncomputable def nn(a b:J):aC:=decide (0<=a)&&decide (0<=b)
def Ff(op:wR)(a b:J):aG J:=match op with
 | .Add=>Z (a+b)
 | .Sub=>Z (a-b)
 | .Mult=>eU (jR a&&jR b) (Z (a*b))
 | .FloorDiv=>eU (b != 0&&jR b) (Z (a.fdiv b))
 | .Mod=>eU (b != 0) (Z (a.fmod b))
 | .Pow=>eU (jR a&&decide (0<=b)&&decide (b<=1000000)) (Z (a^b.toNat))
 | .RShift=>eU (decide (0<=b)) (Z (a.fdiv (2^b.toNat)))
 | .LShift=>eU (jR a&&decide (0<=b)&&decide (b<=1000000)) (Z (a*2^b.toNat))
 | .BitXor=>eU (nn a b) (Z (CP a b))
 | .BitAnd=>eU (nn a b) (Z (HL a b))
 | .BitOr=>eU (nn a b) (Z (IK a b))
 | _=>aB
abbrev bG(α:Type):=aG (α×Hp)
noncomputable def aF:O:=16000000
noncomputable def Ee(h:Hp)(xs:Y V):V×Hp:=(.ref h.length,h++[.list xs])
noncomputable def iw:Y V->aG V
 | [x]=>Z x
 | _=>aB
def cs'(op:wR)(xs:Y V)(y:V)(h:Hp):bG V:=match op with
 | .Add=>bE (rR y) λb=>bE (lK h b) λys=>eU (decide (xs.length+ys.length<=aF)) (Z (Ee h (xs++ys)))
 | .Mult=>bE (kK y) λn=>bE (iw xs) λx=>eU (decide (0<=n)&&decide (n<=aF)) (Z (Ee h (kA n.toNat x)))
 | _=>aB
def Ba(op:wR)(x y:V)(h:Hp):bG V:=match rR x with
 | some a=>bE (lK h a) λxs=>cs' op xs y h
 | none=>bE (kK x) λa=>bE (kK y) λb=>bE (Ff op a b) λc=>Z (.int c,h)
noncomputable def fR(es:Y (J×V))(k:J):aG V:=(es.find? λe=>e.1==k).map (·.2)
noncomputable def yA(es:Y (J×V))(k:J)(v:V):Y (J×V):=
 if es.any (λe=>e.1==k) then es.map λe=>if e.1==k then (k,v) else e else es++[(k,v)]
def NM(a:J):Y V->aG aC
 | []=>Z aE
 | x::r=>bE (kK x) λb=>bE (NM a r) λq=>Z (a==b||q)
noncomputable def Qj:Kind->aG (Y (J×V))
 | .rD es=>Z es
 | .fn _ _ _=>aB
 | .cls _=>aB
 | .blt _=>aB
 | .sH _=>aB
 | .kX=>aB
noncomputable def HV:Kind->aG (Y J)
 | .rD _=>aB
 | .fn _ _ _=>aB
 | .cls _=>aB
 | .blt _=>aB
 | .sH xs=>Z xs
 | .kX=>aB
def SQ(G:Cx)(a:J)(y:V)(h:Hp):aG aC:=match y with
 | .aM ys=>NM a ys
 | .ref d=>bE (Be h d) λp=>Z (fR p.1 a).isSome
 | .g n=>bE (Qj (G.kind n)) λes=>Z (fR es a).isSome
 | _=>aB
noncomputable def isNone:V->aG aC
 | .none=>Z u
 | .g _=>Vt
 | _=>Z aE
noncomputable def KQ:V->aC
 | .none=>u
 | _=>aE
theorem NR(h:KQ v=u):v= .none:=by cases v<;>first|rfl|exact absurd h E1
def KN(x y:V)(f:J->J->aC):aG aC:=bE (kK x) λa=>bE (kK y) λb=>Z (f a b)
def xF(G:Cx)(op:JF)(x y:V)(h:Hp):aG aC:=match op with
 | .Eq=>M2 h x y
 | .NotEq=>bE (M2 h x y) λb=>Z (!b)
 | .Lt=>KN x y λa b=>decide (a<b)
 | .LtE=>KN x y λa b=>decide (a<=b)
 | .Gt=>KN x y λa b=>decide (a>b)
 | .GtE=>KN x y λa b=>decide (a≥b)
 | .Is=>eU (KQ y) (isNone x)
 | .IsNot=>eU (KQ y) (bE (isNone x) λb=>Z (!b))
 | .In=>bE (kK x) λa=>SQ G a y h
 | .NotIn=>bE (kK x) λa=>bE (SQ G a y h) λb=>Z (!b)
noncomputable def kQ(i:J)(n:O):aG O:=
 if 0<=i then (if i<n then Z i.toNat else aB) else (if 0<=i+n then Z (i+n).toNat else aB)
def BX(xs:Y V)(i:J):aG V:=bE (kQ i xs.length) λk=>xs[k]?
def go'(o:bY)(i:J):aG V:=match o with
 | .list xs=>BX xs i
 | .dict es _=>fR es i
 | .inst _ _=>aB
def Au(G:Cx)(o:V)(i:J)(h:Hp):aG V:=match o with
 | .aM xs=>BX xs i
 | .ref a=>bE h[a]? λob=>go' ob i
 | .g n=>bE (Qj (G.kind n)) λes=>fR es i
 | _=>aB
def MJ(n:O)(d:O)(v:V):aG O:=match kK v with
 | some i=>eU (decide (0<=i)&&decide (i<=n)) (Z i.toNat)
 | none=>eU (KQ v) (Z d)
def Ig(o lo hi:V)(h:Hp):bG V:=match o with
 | .aM xs=>bE (kK lo) λi=>eU (KQ hi&&(decide (1<=i)&&decide (i<=xs.length))) (Z (.aM (xs.drop i.toNat),h))
 | .ref l=>bE (lK h l) λxs=>bE (MJ xs.length 0 lo) λa=>bE (MJ xs.length xs.length hi) λb=>Z (Ee h ((xs.take b).drop a))
 | _=>aB
def lW:Y (O×V)->O->aG V
 | [],_=>aB
 | e::r,a=>cW (hU e.1 a) (Z e.2) (lW r a)
def uM:Y (O×V)->O->V->Y (O×V)
 | [],a,v=>[(a,v)]
 | e::r,a,v=>cW (hU e.1 a) ((a,v)::r) (e::uM r a v)
def HM(G:Cx)(o:V)(a:O)(h:Hp):aG V:=bE (rR o) λl=>bE (NN h l) λp=>eU (G.qF p.1 a) (lW p.2 a)
def Ia(G:Cx)(o:V)(a:O)(v:V)(h:Hp):aG Hp:=bE (rR o) λl=>bE (NN h l) λp=>eU (G.qF p.1 a) (Z (h.set l (.inst p.1 (uM p.2 a v))))
def ne'(o:bY)(i:J)(v:V):aG bY:=match o with
 | .list xs=>bE (kQ i xs.length) λk=>Z (.list (xs.set k v))
 | .dict es ep=>eU (decide (es.length<=aF)) (Z (.dict (yA es i v) (if (fR es i).isSome then ep else ep.map (· + 1))))
 | .inst _ _=>aB
def Ib(o:V)(i:J)(v:V)(h:Hp):aG Hp:=bE (rR o) λl=>bE h[l]? λob=>bE (ne' ob i v) λgz=>Z (h.set l gz)
def UH(o lo hi v:V)(h:Hp):aG Hp:=bE (rR o) λl=>bE (kK lo) λa=>bE (kK hi) λb=>bE (rR v) λm=>bE (lK h l) λxs=>bE (lK h m) λys=>
 eU (decide (l≠m)&&(decide (0<=a)&&(decide (a<=b)&&(decide (b<=xs.length)&&decide (xs.length+ys.length<=aF))))) (Z (h.set l (.list (xs.take a.toNat++ys++xs.drop b.toNat))))
noncomputable def Gn:Y J->J
 | []=>0
 | i::r=>i+Gn r
def YO(G:Cx):V->aG (Y J)
 | .g n=>HV (G.kind n)
 | _=>aB
def N5:Y V->aG (Y (J×V))
 | []=>Z []
 | [_]=>aB
 | k::v::r=>bE (kK k) λi=>bE (N5 r) λes=>eU (!es.any λe=>e.1==i) (Z ((i,v)::es))
noncomputable def Cp{α:Type}(args:Y V)(f:V->aG α):aG α:=match args with
 | []=>aB
 | x::r=>match r with
  | []=>f x
  | _::_=>aB
def L3{α:Type}(args:Y V)(f:V->V->aG α):aG α:=match args with
 | []=>aB
 | x::r=>Cp r (f x)
theorem EF{args:Y V}{f:V->aG α}{y:α}(h:Cp args f=Z y):fQ (λx=>args=[x]) (λx=>f x=Z y):=by
 cases args with
 | nil=>exact cI h
 | cons x r=>cases r with
  | nil=>exact⟨x,rfl,h⟩
  | cons=>exact cI h
theorem P5{args:Y V}{f:V->V->aG α}{z:α}(h:L3 args f=Z z):AV (λx y=>args=[x,y]) (λx y=>f x y=Z z):=by
 cases args with
 | nil=>exact cI h
 | cons x r=>
  obtain⟨y,h1,h2⟩:=EF (f:=f x) h;exact⟨x,y,by rw[h1],h2⟩
def NS(G:Cx)(x:V)(h:Hp):aG (Y V):=match x with
 | .aM xs=>Z xs
 | .ref a=>lK h a
 | .g n=>bE (HV (G.kind n)) λxs=>eU (decide (xs.length<=aF)) (Z (xs.map .int))
 | _=>aB
def Fi(G:Cx)(b:Lo)(args:Y V)(h:Hp):bG V:=match b with
 | .len=>Cp args λx=>bE (NS G x h) λxs=>Z (.int xs.length,h)
 | .min=>L3 args λx y=>bE (kK x) λa=>bE (kK y) λb=>Z (.int (if b<a then b else a),h)
 | .max=>L3 args λx y=>bE (kK x) λa=>bE (kK y) λb=>Z (.int (if b>a then b else a),h)
 | .range=>match args with
  | []=>aB
  | x::r=>bE (kK x) λa=>match r with
   | []=>eU (jR a) (Z (.gG 0 a,h))
   | _::_=>Cp r λy=>bE (kK y) λb=>eU (jR a&&jR b) (Z (.gG a b,h))
 | .list=>Cp args λx=>bE (NS G x h) λxs=>Z (Ee h xs)
 | .tuple=>Cp args λx=>bE (NS G x h) λxs=>Z (.aM xs,h)
 | .sum=>Cp args λx=>bE (YO G x) λxs=>Z (.int (Gn xs),h)
 | .Tr _=>aB
abbrev PE:=V->Hp->Prop
abbrev Call:=O->Y V->Hp->PE->Prop
def vb(G:Cx)(cl:Call)(f:V)(args:Y V)(h:Hp)(Q:PE):Prop:=match f with
 | .g n=>(match G.kind n with
  | .fn _ _ _=>cl n args h Q
  | .cls gR=>cl gR (.ref h.length::args) (h++[.inst n []]) λv h'=>v= .none/\Q (.ref h.length) h'
  | .blt b=>bZ (Fi G b args h) λr=>Q r.1 r.2
  | .rD _=>False
  | .sH _=>False
  | .kX=>False)
 | _=>False
inductive xA where|GQ|Jl|H7 (c:O)
def Uc(G:Cx)(m:O):bY->aG xA
 | .list _=>eU (JB m 2) (Z .GQ)
 | .dict _ _=>eU (hU m 3) (Z .Jl)
 | .inst c fs=>eU ((G.aX c m).isSome&&(lW fs m).isNone) (Z (.H7 c))
def K7(G:Cx)(m:O)(o:V)(h:Hp):aG xA:=bE (rR o) λl=>bE h[l]? (Uc G m)
def DJ(l:O)(xs:Y V)(m:O)(args:Y V)(h:Hp):bG V:=match m with
 | 0=>Cp args λv=>eU (decide (xs.length<aF)) (Z (.none,h.set l (.list (xs++[v]))))
 | 1=>match args with
  | []=>bE xs.getLast? λv=>Z (v,h.set l (.list xs.dropLast))
  | _::_=>aB
 | 2=>Cp args λy=>bE (rR y) λb=>bE (lK h b) λys=>eU (decide (l≠b)&&decide (xs.length+ys.length<=aF)) (Z (.none,h.set l (.list (xs++ys))))
 | _+3=>aB
def QV(es:Y (J×V))(m:O)(args:Y V)(h:Hp):bG V:=eU (hU m 3) (L3 args λx d=>bE (kK x) λk=>Z ((fR es k).getD d,h))
def vc(G:Cx)(cl:Call)(Dd:xA)(o:V)(m:O)(args:Y V)(h:Hp)(Q:PE):Prop:=match Dd with
 | .GQ=>bZ (rR o) λl=>bZ (lK h l) λxs=>bZ (DJ l xs m args h) λr=>Q r.1 r.2
 | .Jl=>bZ (rR o) λl=>bZ (Be h l) λp=>bZ (QV p.1 m args h) λr=>Q r.1 r.2
 | .H7 c=>bZ (G.aX c m) λf=>cl f (o::args) h Q
def oB{σ:Type}(gK:σ->(σ->Prop)->Prop)(s:σ):Prop:=
 ∃(n:O) (bK:O->σ->Prop),bK n s/\∀n s,bK n s->gK s λs'=>∃m,m<n/\bK m s'
abbrev cA:=Y (aG V)
def zY(it:V)(k:O)(h:Hp):aG (aG V):=match it with
 | .aM xs=>Z xs[k]?
 | .gG lo hi=>Z (if lo+k<hi then Z (.int (lo+k)) else aB)
 | .ref a=>bE (lK h a) λxs=>Z xs[k]?
 | _=>aB
noncomputable def CA(I:cA)(i:O):aG V:=I[i]?.join
def Qn(vs:Y V):aC:=decide (vs.length<=aF)
inductive Fl where
 | next|ret (v:V)|cont
abbrev PS:=Fl->cA->Hp->Prop
variable{Q:PS}
def Aa(gK:V->Hp->(aG V->Hp->Prop)->Prop)(it:V)(Q:PE)(p:O×Y V×Hp)(go:O×Y V×Hp->Prop):Prop:=
 bZ (zY it p.1 p.2.2) λy=>match y with
  | none=>Q (.ref p.2.2.length) (p.2.2++[.list p.2.1])
  | some x=>gK x p.2.2 λr h'=>match r with
   | some v=>p.2.1.length<aF/\go (p.1+1,p.2.1++[v],h')
   | none=>go (p.1+1,p.2.1,h')
mutual
def wE(G:Cx)(cl:Call):E->cA->Hp->PE->Prop
 | .eT v,_,h,Q=>Q v h
 | .D i,I,h,Q=>bZ (CA I i) λv=>Q v h
 | .bO op a b,I,h,Q=>wE G cl a I h λx h1=>wE G cl b I h1 λy h2=>bZ (Ba op x y h2) λr=>Q r.1 r.2
 | .neg a,I,h,Q=>wE G cl a I h λx h1=>bZ (kK x) λi=>Q (.int (-i)) h1
 | .not a,I,h,Q=>wE G cl a I h λx h1=>bZ (tW x) λb=>Q (.bool (!b)) h1
 | .and es,I,h,Q=>U4 G cl es I h Q
 | .or es,I,h,Q=>U6 G cl es I h Q
 | .bJ op a b,I,h,Q=>wE G cl a I h λx h1=>wE G cl b I h1 λy h2=>bZ (xF G op x y h2) λr=>Q (.bool r) h2
 | .xE A0 uU a b c,I,h,Q=>wE G cl a I h λx h1=>wE G cl b I h1 λy h2=>bZ (xF G A0 x y h2) λr=>
   cW r (wE G cl c I h2 λz h3=>bZ (xF G uU y z h3) λr=>Q (.bool r) h3) (Q (.bool aE) h2)
 | .ite c t f,I,h,Q=>wE G cl c I h λx h1=>bZ (tW x) λb=>cW b (wE G cl t I h1 Q) (wE G cl f I h1 Q)
 | .aM es,I,h,Q=>Dj G cl es I h λvs h1=>cW (Qn vs) (Q (.aM vs) h1) False
 | .list es,I,h,Q=>Dj G cl es I h λvs h1=>cW (Qn vs) (Q (.ref h1.length) (h1++[.list vs])) False
 | .dict bX,I,h,Q=>Dj G cl bX I h λvs h1=>bZ (N5 vs) λes=>Q (.ref h1.length) (h1++[.dict es (cW bX.isEmpty (Z 0) Vt)])
 | .bI o a,I,h,Q=>wE G cl o I h λx h1=>bZ (HM G x a h1) λv=>Q v h1
 | .aY o i,I,h,Q=>wE G cl o I h λx h1=>wE G cl i I h1 λk h2=>bZ (kK k) λi=>bZ (Au G x i h2) λv=>Q v h2
 | .oO o lo hi,I,h,Q=>wE G cl o I h λx h1=>wE G cl lo I h1 λa h2=>wE G cl hi I h2 λb h3=>bZ (Ig x a b h3) λr=>Q r.1 r.2
 | .call f args,I,h,Q=>wE G cl f I h λfv h1=>Dj G cl args I h1 λvs h2=>vb G cl fv vs h2 Q
 | .aX o m args,I,h,Q=>wE G cl o I h λov h1=>bZ (K7 G m ov h1) λDd=>Dj G cl args I h1 λvs h2=>vc G cl Dd ov m vs h2 Q
 | .comp dY dN it,I,h,Q=>wE G cl it I h λx h1=>oB (Aa (λv hh q=>wE G cl dY (I.set dN (Z v)) hh λy h'=>q (Z y) h') x Q) (0,[],h1)
 | .Bd dY dN it c,I,h,Q=>wE G cl it I h λx h1=>oB (Aa (λv hh q=>wE G cl c (I.set dN (Z v)) hh λt An=>bZ (tW t) λb=>
   cW b (wE G cl dY (I.set dN (Z v)) An λy h'=>q (Z y) h') (q aB An)) x Q) (0,[],h1)
def Dj(G:Cx)(cl:Call):Y E->cA->Hp->(Y V->Hp->Prop)->Prop
 | [],_,h,Q=>Q [] h
 | e::es,I,h,Q=>wE G cl e I h λv h1=>Dj G cl es I h1 λvs h2=>Q (v::vs) h2
def U4(G:Cx)(cl:Call):Y E->cA->Hp->PE->Prop
 | [],_,_,_=>False
 | e::es,I,h,Q=>wE G cl e I h λx h1=>bZ (tW x) λb=>cW (es.isEmpty || !b) (Q (.bool b) h1) (U4 G cl es I h1 Q)
def U6(G:Cx)(cl:Call):Y E->cA->Hp->PE->Prop
 | [],_,_,_=>False
 | e::es,I,h,Q=>wE G cl e I h λx h1=>bZ (tW x) λb=>cW (es.isEmpty||b) (Q (.bool b) h1) (U6 G cl es I h1 Q)
end
noncomputable def tS:Y O->Y V->cA->aG cA
 | [],vs,I=>match vs with
  | []=>Z I
  | _::_=>aB
 | i::is,vs,I=>match vs with
  | []=>aB
  | v::vs=>tS is vs (I.set i (Z v))
noncomputable def LD:V->aG (Y V)
 | .aM xs=>Z xs
 | _=>aB
def kJ(k:cA->Hp->Prop)(Q:PS):PS:=λfl I h=>match fl with
 | .next=>k I h
 | .ret v=>Q (.ret v) I h
 | .cont=>Q .cont I h
def zC(k:cA->Hp->Prop)(Q:PS):PS:=λfl I h=>match fl with
 | .next=>Q .next I h
 | .ret v=>Q (.ret v) I h
 | .cont=>k I h
def Ah(nx:O->cA->Hp->aG (aG cA))(body:cA->Hp->PS->Prop)(Q:PS)(p:O×cA×Hp)(go:O×cA×Hp->Prop):Prop:=
 bZ (nx p.1 p.2.1 p.2.2) λy=>match y with
  | none=>Q .next p.2.1 p.2.2
  | some ρ1=>body ρ1 p.2.2 (kJ (λI h=>go (p.1+1,I,h)) (zC (λI h=>go (p.1+1,I,h)) Q))
def wK(bind:O->V->cA->aG cA)(it:V):O->cA->Hp->aG (aG cA):=λk I h=>bE (zY it k h) λy=>match y with
 | none=>Z aB
 | some v=>bE (bind k v I) fun ρ1=>Z (Z ρ1)
def Kh(dN d:O)(B6:Y J)(ep:O):O->cA->Hp->aG (aG cA):=λk I h=>bE (Be h d) λp=>
 eU (decide (p.1.map (·.1)=B6)&&decide (p.2=Z ep)) (match B6[k]? with
  | none=>Z aB
  | some i=>Z (Z (I.set dN (Z (.int i)))))
mutual
def wS(G:Cx)(cl:Call):bD->cA->Hp->PS->Prop
 | .expr e,I,h,Q=>wE G cl e I h λ_ h1=>Q .next I h1
 | .cU i e,I,h,Q=>wE G cl e I h λv h1=>Q .next (I.set i (Z v)) h1
 | .jE is e,I,h,Q=>wE G cl e I h λv h1=>bZ (LD v) λvs=>bZ (tS is vs I) fun ρ1=>Q .next ρ1 h1
 | .dU o a e,I,h,Q=>wE G cl e I h λv h1=>wE G cl o I h1 λx h2=>bZ (Ia G x a v h2) λh3=>Q .next I h3
 | .sA o i e,I,h,Q=>wE G cl e I h λv h1=>wE G cl o I h1 λx h2=>wE G cl i I h2 λk h3=>bZ (kK k) λi=>bZ (Ib x i v h3) λh4=>Q .next I h4
 | .Jd o lo hi e,I,h,Q=>wE G cl e I h λv h1=>wE G cl o I h1 λx h2=>wE G cl lo I h2 λa h3=>wE G cl hi I h3 λb h4=>bZ (UH x a b v h4) λh5=>Q .next I h5
 | .AX i op e,I,h,Q=>bZ (CA I i) λx=>bZ (kK x) λa=>wE G cl e I h λy h1=>bZ (kK y) λb=>bZ (Ff op a b) λc=>Q .next (I.set i (Z (.int c))) h1
 | .Je o i op e,I,h,Q=>wE G cl o I h λx h1=>wE G cl i I h1 λk h2=>bZ (kK k) λi=>bZ (Au G x i h2) λz=>bZ (kK z) λa=>wE G cl e I h2 λy h3=>bZ (kK y) λb=>bZ (Ff op a b) λc=>
   bZ (Ib x i (.int c) h3) λh4=>Q .next I h4
 | .cP c t f,I,h,Q=>wE G cl c I h λx h1=>bZ (tW x) λb=>cW b (bQ G cl t I h1 Q) (bQ G cl f I h1 Q)
 | .vC c b,I,h,Q=>oB (λp go=>wE G cl c p.1 p.2 λv h1=>bZ (tW v) λt=>cW t (bQ G cl b p.1 h1 (kJ (λI h=>go (I,h)) (zC (λI h=>go (I,h)) Q))) (Q .next p.1 h1)) (I,h)
 | .rE dN it b,I,h,Q=>wE G cl it I h λx h1=>oB (Ah (wK (λ_ v I=>Z (I.set dN (Z v))) x) (bQ G cl b) Q) (0,I,h1)
 | .HW dN it b,I,h,Q=>wE G cl it I h λx h1=>bZ (rR x) λd=>bZ (Be h1 d) λp=>bZ p.2 λep=>oB (Ah (Kh dN d (p.1.map (·.1)) ep) (bQ G cl b) Q) (0,I,h1)
 | .HX tj it b,I,h,Q=>wE G cl it I h λx h1=>oB (Ah (wK (λ_ v I=>bE (LD v) λvs=>tS tj vs I) x) (bQ G cl b) Q) (0,I,h1)
 | .Jr i x l b,I,h,Q=>wE G cl l I h λv h1=>bZ (rR v) λa=>oB (Ah (wK (λk v I=>Z ((I.set i (Z (.int k))).set x (Z v))) (.ref a)) (bQ G cl b) Q) (0,I,h1)
 | .ret e,I,h,Q=>wE G cl e I h λv h1=>Q (.ret v) I h1
 | .DW,I,h,Q=>Q (.ret .none) I h
 | .A1,I,h,Q=>Q .next I h
 | .cont,I,h,Q=>Q .cont I h
 | .fail,_,_,_=>False
def bQ(G:Cx)(cl:Call):Y bD->cA->Hp->PS->Prop
 | [],I,h,Q=>Q .next I h
 | [s],I,h,Q=>wS G cl s I h Q
 | s::s2::r,I,h,Q=>wS G cl s I h (kJ (fun ρ1 h1=>bQ G cl (s2::r) ρ1 h1 Q) Q)
end
theorem mY'{G:Cx}{cl:Call}: kJ (fun ρ1 h1=>bQ G cl [] ρ1 h1 Q) Q=Q:=by funext fl I h;cases fl<;>rfl
theorem Ey{G:Cx}{cl:Call}{s:bD}{r:Y bD}{I:cA}: bQ G cl (s::r) I h Q=wS G cl s I h (kJ (fun ρ1 h1=>bQ G cl r ρ1 h1 Q) Q):=by
 cases r with
 | nil=>rw[mY'];rfl
 | cons=>rfl
noncomputable def gT:Fl->V
 | .ret v=>v
 | .next=>.none
 | .cont=>.none
noncomputable def YW:Kind->aG (O×O×Y bD)
 | .fn np nv b=>Z (np,nv,b)
 | .cls _=>aB
 | .blt _=>aB
 | .rD _=>aB
 | .sH _=>aB
 | .kX=>aB
mutual
noncomputable def qT(g:O->O):V->V
 | .none=>.none
 | .bool b=>.bool b
 | .int i=>.int i
 | .str s=>.str s
 | .aM xs=>.aM (sU g xs)
 | .ref a=>.ref (g a)
 | .g n=>.g n
 | .gG lo hi=>.gG lo hi
noncomputable def sU(g:O->O):Y V->Y V
 | []=>[]
 | x::xs=>qT g x::sU g xs
end
def iZ(g:O->O):bY->bY
 | .list xs=>.list (sU g xs)
 | .dict es ep=>.dict (es.map λe=>(e.1,qT g e.2)) ep
 | .inst c fs=>.inst c (fs.map λe=>(e.1,qT g e.2))
noncomputable def fN(f:Y O)(n i:O):O:=match f[i]? with
 | some j=>j
 | none=>n+(i-f.length)
structure iW(f:Y O)(L h:Hp):Prop where
 len:L.length=f.length
 nd:f.Nodup
 fK:∀(i j:O),f[i]?=Z j->j<h.length/\h[j]?=(L[i]?).map (iZ (fN f h.length))
structure Cf(f:Y O)(h L' h':Hp):Prop where
 len:h'.length=h.length+(L'.length-f.length)
 fK:∀(k i:O),f[k]?=Z i->h'[i]?=(L'[k]?).map (iZ (fN f h.length))
 keep:∀i,i<h.length->i∉f->h'[i]?=h[i]?
 new:∀j,h'[h.length+j]?=(L'[f.length+j]?).map (iZ (fN f h.length))
def YX(cl:Call):Call:=λn args h Q=>∃(f:Y O) (L:Hp) (as:Y V),iW f L h/\sU (fN f h.length) as=args/\cl n as L λv L'=>∀h',Cf f h L' h'->Q (qT (fN f h.length) v) h'
def Js(G:Cx)(cl:Call):Call:=λn args h Q=>cW (G.fr n) (YX cl n args h Q) (cl n args h Q)
inductive Bx(p:Prop):Prop where
 | mk(h:p):Bx p
def Iu(G:Cx):O->Call
 | 0,_,_,_,_=>False
 | d+1,n,args,h,Q=>bZ (YW (G.kind n)) λq=>cW (hU args.length q.1) (bQ G (Js G λn args h Q=>Bx (Iu G d n args h Q)) q.2.2 (args.map Z++kA (q.2.1-q.1) aB) h λfl _ h1=>Q (gT fl) h1) False
@[irreducible]
def wF(G:Cx)(d:O):Call:=Iu G d
theorem U5{G:Cx}: wF G d=Iu G d:=by unfold wF;rfl
end
variable{acc args xs ys:Y V}{es es':Y (J×V)}{fs fs':Y (O×V)}{iv nU:V}{o7 o8 o9:aG V}{H H' Hk L':Hp}{Q:V×Hp->Prop}{dY it:E}{lT:Y bD}{G:Cx}{cl:Call}{I ρ' ρ1:cA}{bind:O->V->cA->aG cA}{nx:O->cA->Hp->aG (aG cA)}{body:cA->Hp->PS->Prop}
noncomputable def cb':Y bD:=[.ret (.bJ .In (.D 0) (.gl 108))]
noncomputable def bz':Y bD:=[.ret (.ite (.call (.gl 14) [.D 0]) (.eT .none) (.n 0))]
noncomputable def bw':Y bD:=[.cP (.bJ .Eq (.D 1) (.n (-64))) [.ret (.aM [.aM [],.aM []])] [],.cP (.bJ .Lt (.D 1) (.n 0)) [.ret (.ite (.bJ .In (.D 1) (.gl 107)) (.aM [.aM [],(.aM [.D 1])]) (.eT .none))] [],.ret (.ite (.bJ .Lt (.D 1) (.call (.gl 0) [.D 0])) (.aY (.D 0) (.D 1)) (.eT .none))]
noncomputable def bY':Y bD:=[.ret (.bJ .In (.D 0) (.eT (.aM [(.int 69),(.int 80),(.int 103),(.int 104),(.int 105),(.int 121),(.int 122),(.int 123),(.int 167),(.int 172),(.int 173),(.int 192),(.int 193),(.int 194),(.int 195),(.int 196),(.int 64)])))]
noncomputable def bZ':Y bD:=[.ret (.xE .LtE .LtE (.n 69) (.D 0) (.n 196))]
noncomputable def bW':Y bD:=[.ret (.or [.xE .LtE .LtE (.n 69) (.D 0) (.n 90),.bJ .Eq (.D 0) (.n 209)])]
noncomputable def bS':Y bD:=[.cP (.or [(.bJ .In (.D 0) (.eT (.aM [(.int 35),(.int 37),(.int 63),(.int 64),(.int 209),(.int 210),(.int 64528),(.int 256),(.int 257)]))),.bJ .In (.D 0) (.gl 109),(.call (.gl 18) [.D 0])]) [.ret (.eT (.bool u))] [],.ret (.xE .LtE .Lt (.n 16384) (.D 0) (.n 20480))]
noncomputable def bX':Y bD:=[.ret (.or [(.bJ .In (.D 0) (.aM [(.n 259),(.n 260),(.n 261)])),.xE .LtE .Lt (.n 4096) (.D 0) (.n 16384),(.and [.bJ .GtE (.D 0) (.n 20480),(.bJ .Lt (.D 0) (.bO .Add (.n 20480) (.n 8192)))])])]
noncomputable def ck':Y bD:=[.cU 3 (.aY (.D 1) (.D 2)),.rE 4 (.call (.gl 3) [(.n 8)]) [.cP (.and [(.bJ .Lt (.D 3) (.call (.gl 0) [.D 0])),(.bJ .Eq (.aY (.aY (.D 0) (.D 3)) (.n 0)) (.n 259))]) [.cU 3 (.aY (.D 1) (.aY (.aY (.D 0) (.D 3)) (.n 1)))] []],.ret (.D 3)]
noncomputable def cg':Y bD:=[.cU 2 (.list []),.HX [3,4,5,6] (.D 0) [.cP (.call (.gl 21) [.D 3]) [.expr (.aX (.D 2) 0 [(.aM [.D 3,(.call (.gl 22) [.D 0,.D 1,.D 4]),.D 5,.D 6])])] [.cP (.bJ .Eq (.D 3) (.n 262)) [.expr (.aX (.D 2) 0 [(.aM [.D 3,.D 4,(.call (.gl 5) [(.comp (.call (.gl 22) [.D 0,.D 1,.D 7]) 7 (.D 5))]),.D 6])])] [.expr (.aX (.D 2) 0 [(.aM [.D 3,.D 4,.D 5,.D 6])])]]],.ret (.D 2)]
noncomputable def bm':Y bD:=[.dU (.D 0) 4 (.D 1),.dU (.D 0) 5 (.D 2),.dU (.D 0) 6 (.D 3),.dU (.D 0) 7 (.D 4),.dU (.D 0) 8 (.D 5)]
noncomputable def ba':Y bD:=[.dU (.D 0) 9 (.D 1),.dU (.D 0) 10 (.D 2),.dU (.D 0) 6 (.D 3),.dU (.D 0) 8 (.D 4),.dU (.D 0) 11 (.eT .none),.dU (.D 0) 12 (.eT .none),.dU (.D 0) 13 (.eT .none),.dU (.D 0) 14 (.eT (.bool aE))]
noncomputable def aZ':Y bD:=[.dU (.D 0) 15 (.D 1),.dU (.D 0) 16 (.D 2),.jE [3,4] (.aY (.bI (.D 1) 17) (.bI (.D 2) 18)),.dU (.D 0) 19 (.bO .Add (.call (.gl 0) [.D 3]) (.call (.gl 0) [.bI (.D 2) 20])),.dU (.D 0) 8 (.call (.gl 0) [.D 4]),.dU (.D 0) 4 (.list []),.dU (.D 0) 21 (.list []),.dU (.D 0) 22 (.n 0),.dU (.D 0) 23 (.list []),.dU (.D 0) 24 (.n 0),.dU (.D 0) 25 (.list []),.dU (.D 0) 26 (.eT (.bool u)),.dU (.D 0) 27 (.n 0)]
noncomputable def aK':Y bD:=[.expr (.aX (.bI (.D 0) 21) 0 [.neg (.n 1)]),.ret (.bO .Sub (.call (.gl 0) [.bI (.D 0) 21]) (.n 1))]
noncomputable def aR':Y bD:=[.sA (.bI (.D 0) 21) (.D 1) (.call (.gl 0) [.bI (.D 0) 4]),.dU (.D 0) 22 (.call (.gl 0) [.bI (.D 0) 4])]
noncomputable def aG':Y bD:=[.expr (.aX (.bI (.D 0) 4) 0 [(.aM [.D 1,.D 2,.D 3,.D 4])])]
noncomputable def aI':Y bD:=[.ret (.bO .Add (.bI (.D 0) 19) (.D 1))]
noncomputable def aO':Y bD:=[.expr (.aX (.bI (.D 0) 23) 0 [.D 1]),.dU (.D 0) 24 (.call (.gl 2) [.bI (.D 0) 24,(.call (.gl 0) [.bI (.D 0) 23])])]
noncomputable def aP':Y bD:=[.cU 1 (.aX (.D 0) 28 [(.call (.gl 0) [.bI (.D 0) 23])]),.expr (.aX (.D 0) 29 [(.aM [(.n 0),.D 1])]),.ret (.D 1)]
noncomputable def aN':Y bD:=[.ret (.aX (.bI (.D 0) 23) 1 [])]
noncomputable def aQ':Y bD:=[.jE [3,4] (.D 2),.cP (.bJ .Eq (.D 3) (.n 1)) [.expr (.aX (.D 0) 30 [(.n 257),.D 1,.D 4,(.n 0)])] [.cP (.bJ .NotEq (.D 4) (.D 1)) [.expr (.aX (.D 0) 30 [(.n 256),.D 1,.D 4,(.n 0)])] []]]
noncomputable def aX':Y bD:=[.jE [3,4] (.D 1),.cP (.bJ .Eq (.D 3) (.n 0)) [.ret (.D 4)] [],.expr (.aX (.D 0) 30 [(.n 257),(.aX (.D 0) 28 [.D 2]),.D 4,(.n 0)]),.ret (.aX (.D 0) 28 [.D 2])]
noncomputable def aU':Y bD:=[.expr (.aX (.D 0) 31 [(.aX (.D 0) 28 [.D 1]),(.aY (.bI (.D 0) 23) (.D 1))]),.sA (.bI (.D 0) 23) (.D 1) (.aM [(.n 0),(.aX (.D 0) 28 [.D 1])])]
noncomputable def aW':Y bD:=[.cU 2 (.bO .Sub (.call (.gl 0) [.bI (.D 0) 23]) (.D 1)),.rE 3 (.call (.gl 3) [.D 2,(.call (.gl 0) [.bI (.D 0) 23])]) [.expr (.aX (.D 0) 32 [.D 3])],.ret (.aX (.D 0) 28 [.D 2])]
noncomputable def aV':Y bD:=[.expr (.aX (.D 0) 33 [(.call (.gl 0) [.bI (.D 0) 23])])]
noncomputable def aF':Y bD:=[.rE 2 (.call (.gl 3) [.D 1]) [.expr (.aX (.bI (.D 0) 23) 1 [])]]
noncomputable def aT':Y bD:=[.cU 2 (.n 0),.Jr 3 4 (.bI (.D 0) 23) [.cP (.bJ .Eq (.D 4) (.aM [(.n 0),.D 1])) [.expr (.aX (.D 0) 32 [.D 3]),.cU 2 (.bO .Add (.D 2) (.n 1))] []],.ret (.D 2)]
noncomputable def aY':Y bD:=[.ret (.comp (.aM [(.n 0),(.aX (.D 0) 28 [.D 2])]) 2 (.call (.gl 3) [.D 1]))]
noncomputable def aS':Y bD:=[.jE [4,5] (.aM [(.aX (.D 0) 34 [.D 1]),(.aX (.D 0) 28 [(.call (.gl 0) [.bI (.D 0) 23])])]),.cU 3 (.and [.bJ .Eq (.D 4) (.n 0),(.bJ .Gt (.call (.gl 0) [.bI (.D 0) 4]) (.bI (.D 0) 22))]),.cP (.and [.D 3,(.bJ .Eq (.D 2) (.aM [(.n 0),.D 5])),(.call (.gl 20) [(.aY (.aY (.bI (.D 0) 4) (.neg (.n 1))) (.n 0))]),(.bJ .Eq (.aY (.aY (.bI (.D 0) 4) (.neg (.n 1))) (.n 1)) (.D 5))]) [.jE [6,7,8,9] (.aX (.bI (.D 0) 4) 1 []),.expr (.aX (.D 0) 30 [.D 6,.D 1,.D 8,.D 9])] [.expr (.aX (.D 0) 31 [.D 1,.D 2])]]
noncomputable def aD':Y bD:=[.cU 1 (.aX (.D 0) 1 []),.cU 2 (.aX (.D 0) 28 [(.call (.gl 0) [.bI (.D 0) 23])]),.cP (.and [(.bJ .Eq (.D 1) (.aM [(.n 0),.D 2])),(.bJ .Gt (.call (.gl 0) [.bI (.D 0) 4]) (.bI (.D 0) 22)),(.bJ .Eq (.aY (.aY (.bI (.D 0) 4) (.neg (.n 1))) (.n 1)) (.D 2))]) [.jE [4,5,6,7] (.aY (.bI (.D 0) 4) (.neg (.n 1))),.cU 3 (.or [(.call (.gl 19) [.D 4]),(.and [.xE .LtE .Lt (.n 16384) (.D 4) (.n 20480),(.call (.gl 19) [.bO .Sub (.D 4) (.n 16384)])])]),.cP (.D 3) [.expr (.aX (.bI (.D 0) 4) 1 []),.ret (.aM [.D 4,.D 6,.D 7])] []] [],.ret (.ite (.bJ .Eq (.aY (.D 1) (.n 0)) (.n 1)) (.aM [(.n 257),.aY (.D 1) (.n 1),(.n 0)]) (.aM [(.n 256),.aY (.D 1) (.n 1),(.n 0)]))]
noncomputable def aC':Y bD:=[.jE [4,5,6] (.D 1),.cP (.bJ .Eq (.D 4) (.n 257)) [.cP (.bJ .Eq (.bJ .NotEq (.D 5) (.n 0)) (.bJ .Eq (.D 2) (.n 1))) [.expr (.aX (.D 0) 30 [(.n 259),.D 3,(.n 0),(.n 0)])] []] [.cP (.bJ .Eq (.D 4) (.n 256)) [.expr (.aX (.D 0) 30 [(.ite (.bJ .Eq (.D 2) (.n 1)) (.n 260) (.n 261)),.D 3,.D 5,(.n 0)])] [.cP (.or [.bJ .Eq (.D 4) (.n 69),.bJ .Eq (.D 4) (.n 80)]) [.expr (.aX (.D 0) 30 [(.ite (.bJ .Eq (.D 2) (.n 1)) (.n 261) (.n 260)),.D 3,.D 5,(.n 0)])] [.cP (.bJ .GtE (.D 4) (.n 16384)) [.expr (.aX (.D 0) 30 [(.bO .Add (.bO .Sub (.D 4) (.n 16384)) (.ite (.bJ .Eq (.D 2) (.n 1)) (.n 20480) (.n 24576))),.D 3,.D 5,.D 6])] [.expr (.aX (.D 0) 30 [(.bO .Add (.D 4) (.ite (.bJ .Eq (.D 2) (.n 1)) (.n 4096) (.n 8192))),.D 3,.D 5,.D 6])]]]]]
noncomputable def aH':Y bD:=[.cU 2 (.aY (.bI (.D 0) 25) (.bO .Sub (.bO .Sub (.call (.gl 0) [.bI (.D 0) 25]) (.n 1)) (.D 1))),.cP (.bJ .Eq (.bI (.D 2) 9) (.n 3)) [.ret (.aM [.D 2,.bI (.D 2) 6,.bI (.D 2) 12])] [],.dU (.D 2) 14 (.eT (.bool u)),.ret (.aM [.D 2,.bI (.D 2) 8,.bI (.D 2) 11])]
noncomputable def aJ':Y bD:=[.cU 3 (.bO .Sub (.call (.gl 0) [.bI (.D 0) 23]) (.D 2)),.cU 4 (.comp (.aM [(.n 0),(.aX (.D 0) 28 [(.bO .Add (.bI (.D 1) 10) (.D 5))])]) 5 (.call (.gl 3) [.D 2])),.ret (.bJ .Eq (.oO (.bI (.D 0) 23) (.D 3) (.eT .none)) (.D 4))]
noncomputable def aL':Y bD:=[.cU 3 (.bO .Sub (.call (.gl 0) [.bI (.D 0) 23]) (.D 2)),.rE 4 (.call (.gl 3) [.D 2]) [.expr (.aX (.D 0) 31 [(.aX (.D 0) 28 [(.bO .Add (.bI (.D 1) 10) (.D 4))]),(.aY (.bI (.D 0) 23) (.bO .Add (.D 3) (.D 4)))])]]
noncomputable def aM':Y bD:=[.jE [4,5] (.D 2),.expr (.aX (.D 0) 35 []),.cU 3 (.call (.gl 9) [.D 1,(.bO .Sub (.call (.gl 0) [.bI (.D 0) 23]) (.call (.gl 0) [.D 4])),(.call (.gl 0) [.D 4]),(.call (.gl 0) [.D 5])]),.dU (.D 3) 11 (.aX (.D 0) 36 []),.cP (.bJ .Eq (.D 1) (.n 3)) [.dU (.D 3) 12 (.aX (.D 0) 36 []),.expr (.aX (.D 0) 37 [.bI (.D 3) 12])] [],.expr (.aX (.bI (.D 0) 25) 0 [.D 3]),.ret (.D 3)]
noncomputable def aE':Y bD:=[.dU (.D 0) 26 (.eT (.bool aE))]
noncomputable def QC:Y bD:=[.expr (.aX (.D 0) 38 [(.n 2),(.aM [.aM [],(.aY (.aY (.bI (.bI (.D 0) 15) 17) (.bI (.bI (.D 0) 16) 18)) (.n 1))])]),.rE 1 (.bI (.bI (.D 0) 16) 39) [.expr (.aX (.D 0) 40 [.D 1])],.cU 2 (.call (.gl 5) [(.comp (.call (.gl 15) [.D 4]) 4 (.bI (.bI (.D 0) 16) 20))]),.cU 3 (.bO .Sub (.bI (.D 0) 19) (.call (.gl 0) [.D 2])),.ret (.call (.gl 8) [(.call (.gl 23) [.bI (.D 0) 4,.bI (.D 0) 21]),(.bO .Add (.bI (.D 0) 19) (.bI (.D 0) 24)),.D 3,.D 2,.bI (.D 0) 8])]
noncomputable def QD:Y bD:=[.cU 2 (.aY (.D 1) (.n 0)),.cP (.or [(.and [(.not (.bI (.D 0) 26)),(.bJ .Gt (.bI (.D 0) 27) (.n 0))]),(.and [(.not (.bI (.D 0) 26)),(.bJ .NotIn (.D 2) (.aM [(.n 5),(.n 11)]))])]) [.cP (.bJ .In (.D 2) (.aM [(.n 2),(.n 3),(.n 4)])) [.dU (.D 0) 27 (.bO .Add (.bI (.D 0) 27) (.n 1))] [.cP (.bJ .Eq (.D 2) (.n 11)) [.dU (.D 0) 27 (.bO .Sub (.bI (.D 0) 27) (.n 1))] []],.DW] [],.cP (.bJ .In (.D 2) (.gl 111)) [.cU 3 (.aY (.gl 111) (.D 2)),.expr (.call (.D 3) [.D 0,.D 1])] [.cP (.bJ .In (.D 2) (.gl 109)) [.fail] [.cP (.bJ .In (.D 2) (.gl 110)) [.fail] [.cP (.call (.gl 17) [.D 2]) [.expr (.call (.gl 70) [.D 0,.D 1])] [.expr (.call (.gl 71) [.D 0,.D 1])]]]]]
noncomputable def bK':Y bD:=[.A1]
noncomputable def bP':Y bD:=[.expr (.aX (.D 0) 30 [(.n 0),(.n 0),(.n 0),(.n 0)]),.expr (.aX (.D 0) 41 [])]
noncomputable def bA':Y bD:=[.expr (.aX (.D 0) 38 [.aY (.D 1) (.n 0),(.call (.gl 16) [(.bI (.bI (.D 0) 15) 17),.aY (.D 1) (.n 1)])])]
noncomputable def bG':Y bD:=[.cU 2 (.aX (.D 0) 42 []),.cU 3 (.aX (.D 0) 38 [(.n 4),(.call (.gl 16) [(.bI (.bI (.D 0) 15) 17),.aY (.D 1) (.n 1)])]),.dU (.D 3) 13 (.aX (.D 0) 36 []),.expr (.aX (.D 0) 43 [.D 2,(.n 0),.bI (.D 3) 13])]
noncomputable def Wy:Y bD:=[.cU 2 (.aY (.bI (.D 0) 25) (.neg (.n 1))),.cP (.bI (.D 0) 26) [.expr (.aX (.D 0) 35 []),.dU (.D 2) 14 (.eT (.bool u)),.expr (.aX (.D 0) 30 [(.n 259),.bI (.D 2) 11,(.n 0),(.n 0)])] [],.expr (.aX (.D 0) 37 [.bI (.D 2) 13]),.dU (.D 2) 13 (.eT .none),.dU (.D 0) 23 (.aX (.D 0) 44 [(.bO .Add (.bI (.D 2) 10) (.bI (.D 2) 6))]),.dU (.D 0) 26 (.eT (.bool u))]
noncomputable def L6:Y bD:=[.cU 2 (.aX (.bI (.D 0) 25) 1 []),.cP (.bI (.D 0) 26) [.expr (.aX (.D 0) 35 [])] [],.cP (.bJ .IsNot (.bI (.D 2) 13) (.eT .none)) [.expr (.aX (.D 0) 37 [.bI (.D 2) 13]),.dU (.D 0) 26 (.eT (.bool u))] [],.cP (.bI (.D 2) 14) [.expr (.aX (.D 0) 37 [.bI (.D 2) 11]),.dU (.D 0) 26 (.eT (.bool u))] [],.dU (.D 0) 23 (.aX (.D 0) 44 [(.bO .Add (.bI (.D 2) 10) (.bI (.D 2) 8))]),.dU (.D 0) 24 (.call (.gl 2) [.bI (.D 0) 24,(.call (.gl 0) [.bI (.D 0) 23])]),.cP (.and [(.bJ .Eq (.bI (.D 0) 25) (.list [])),.bI (.D 0) 26]) [.expr (.aX (.D 0) 30 [(.n 267),(.aX (.D 0) 28 [(.n 0)]),.bI (.D 0) 8,(.n 0)])] []]
noncomputable def bB':Y bD:=[.jE [2,3,4] (.aX (.D 0) 45 [.aY (.D 1) (.n 1)]),.expr (.aX (.D 0) 46 [.D 2,.D 3]),.expr (.aX (.D 0) 30 [(.n 259),.D 4,(.n 0),(.n 0)]),.expr (.aX (.D 0) 41 [])]
noncomputable def bC':Y bD:=[.cU 2 (.aX (.D 0) 42 []),.jE [4,5,6] (.aX (.D 0) 45 [.aY (.D 1) (.n 1)]),.cP (.aX (.D 0) 47 [.D 4,.D 5]) [.expr (.aX (.D 0) 43 [.D 2,(.n 1),.D 6]),.DW] [],.cU 3 (.aX (.D 0) 36 []),.expr (.aX (.D 0) 43 [.D 2,(.n 0),.D 3]),.expr (.aX (.D 0) 46 [.D 4,.D 5]),.expr (.aX (.D 0) 30 [(.n 259),.D 6,(.n 0),(.n 0)]),.expr (.aX (.D 0) 37 [.D 3])]
noncomputable def QF:Y bD:=[.cU 2 (.aX (.D 0) 1 []),.jE [4,5,6] (.aM [(.aX (.D 0) 48 [.D 2,(.call (.gl 0) [.bI (.D 0) 23])]),.dict [],.list []]),.rE 3 (.oO (.D 1) (.n 1) (.eT .none)) [.jE [7,8,9] (.aX (.D 0) 45 [.D 3]),.cP (.aX (.D 0) 47 [.D 7,.D 8]) [.expr (.aX (.D 6) 0 [.D 9])] [.cP (.bJ .NotIn (.D 3) (.D 5)) [.sA (.D 5) (.D 3) (.aX (.D 0) 36 [])] [],.expr (.aX (.D 6) 0 [.aY (.D 5) (.D 3)])]],.expr (.aX (.D 0) 30 [(.n 262),.D 4,(.call (.gl 5) [.D 6]),(.n 0)]),.HW 3 (.D 5) [.jE [7,8,9] (.aX (.D 0) 45 [.D 3]),.expr (.aX (.D 0) 37 [.aY (.D 5) (.D 3)]),.expr (.aX (.D 0) 46 [.D 7,.D 8]),.expr (.aX (.D 0) 30 [(.n 259),.D 9,(.n 0),(.n 0)])],.expr (.aX (.D 0) 41 [])]
noncomputable def bM':Y bD:=[.expr (.aX (.D 0) 46 [(.aY (.bI (.D 0) 25) (.n 0)),.bI (.D 0) 8]),.expr (.aX (.D 0) 30 [(.n 267),(.aX (.D 0) 28 [(.n 0)]),.bI (.D 0) 8,(.n 0)]),.expr (.aX (.D 0) 41 [])]
noncomputable def cf':Y bD:=[.rE 2 (.call (.gl 3) [.D 1]) [.expr (.aX (.D 0) 49 [])]]
noncomputable def bD':Y bD:=[.jE [3,4] (.aX (.bI (.D 0) 15) 50 [.aY (.D 1) (.n 1)]),.cU 2 (.aX (.D 0) 33 [(.call (.gl 0) [.D 3])]),.expr (.aX (.D 0) 51 [(.call (.gl 0) [.D 3])]),.cP (.bJ .Eq (.aY (.D 1) (.n 0)) (.n 18)) [.expr (.aX (.D 0) 30 [(.n 265),.aY (.D 1) (.n 1),.D 2,(.n 0)]),.expr (.aX (.D 0) 41 []),.DW] [],.expr (.aX (.D 0) 30 [(.n 263),.aY (.D 1) (.n 1),.D 2,(.n 0)]),.expr (.call (.gl 62) [.D 0,(.call (.gl 0) [.D 4])])]
noncomputable def bF':Y bD:=[.expr (.aX (.D 0) 1 [])]
noncomputable def bN':Y bD:=[.jE [3,4] (.aY (.bI (.D 0) 23) (.neg (.n 1))),.cP (.bJ .Eq (.D 3) (.n 0)) [.cU 5 (.aX (.D 0) 33 [(.n 3)]),.expr (.aX (.D 0) 51 [(.n 3)]),.expr (.aX (.D 0) 30 [(.n 258),.D 5,(.n 0),(.n 0)]),.expr (.aX (.D 0) 49 []),.DW] [],.expr (.aX (.D 0) 1 []),.cU 2 (.aX (.D 0) 1 []),.cP (.bJ .Eq (.D 4) (.n 0)) [.expr (.aX (.D 0) 1 []),.cU 6 (.call (.gl 0) [.bI (.D 0) 23]),.cP (.bJ .Eq (.D 2) (.aM [(.n 0),(.aX (.D 0) 28 [.bO .Add (.D 6) (.n 1)])])) [.expr (.aX (.D 0) 31 [(.aX (.D 0) 28 [.D 6]),.D 2]),.cU 2 (.aM [(.n 0),(.aX (.D 0) 28 [.D 6])])] [],.expr (.aX (.D 0) 29 [.D 2])] []]
noncomputable def bH':Y bD:=[.expr (.aX (.D 0) 29 [(.aM [(.n 0),.aY (.D 1) (.n 1)])])]
noncomputable def bI':Y bD:=[.cU 2 (.aX (.D 0) 1 []),.expr (.aX (.D 0) 52 [.aY (.D 1) (.n 1),.D 2])]
noncomputable def bJ':Y bD:=[.cU 2 (.aX (.D 0) 1 []),.expr (.aX (.D 0) 52 [.aY (.D 1) (.n 1),.D 2]),.expr (.aX (.D 0) 29 [(.ite (.bJ .Eq (.aY (.D 2) (.n 0)) (.n 0)) (.aM [(.n 0),.aY (.D 1) (.n 1)]) (.D 2))])]
noncomputable def bE':Y bD:=[.cU 2 (.ite (.bJ .Eq (.aY (.D 1) (.n 0)) (.n 65)) (.n 32) (.n 64)),.expr (.aX (.D 0) 29 [(.aM [(.n 1),(.bO .Mod (.aY (.D 1) (.n 1)) (.bO .Pow (.n 2) (.D 2)))])])]
noncomputable def bL':Y bD:=[.cU 2 (.aX (.D 0) 1 []),.cU 3 (.aX (.D 0) 48 [.D 2,(.call (.gl 0) [.bI (.D 0) 23])]),.expr (.aX (.D 0) 30 [.aY (.D 1) (.n 0),.aX (.D 0) 49 [],.D 3,(.n 0)])]
noncomputable def bO':Y bD:=[.jE [5,6] (.aM [.aY (.D 1) (.n 0),.aX (.D 0) 1 []]),.cU 2 (.aX (.D 0) 1 []),.cU 3 (.call (.gl 0) [.bI (.D 0) 23]),.cP (.and [(.bJ .Eq (.aY (.D 2) (.n 0)) (.n 1)),(.bJ .Eq (.aY (.D 6) (.n 0)) (.n 0)),(.bJ .In (.D 5) (.eT (.aM [(.int 70),(.int 71),(.int 81),(.int 82),(.int 106),(.int 108),(.int 113),(.int 114),(.int 115),(.int 124),(.int 126),(.int 131),(.int 132),(.int 133)])))]) [.expr (.aX (.D 0) 30 [.bO .Add (.n 16384) (.D 5),.aX (.D 0) 49 [],.aY (.D 6) (.n 1),.aY (.D 2) (.n 1)]),.DW] [],.cU 4 (.aX (.D 0) 48 [.D 2,.D 3]),.cP (.bJ .Eq (.aY (.D 6) (.n 0)) (.n 1)) [.expr (.aX (.D 0) 30 [.bO .Add (.n 16384) (.D 5),.aX (.D 0) 49 [],.D 4,.aY (.D 6) (.n 1)])] [.expr (.aX (.D 0) 30 [.D 5,.aX (.D 0) 49 [],.D 4,.aY (.D 6) (.n 1)])]]
noncomputable def ci':Y bD:=[.cU 2 (.ite (.xE .LtE .Lt (.n 0) (.D 1) (.aX (.D 0) 53 [(.n 0)])) (.aX (.D 0) 16 [.D 1]) (.eT .none)),.cP (.bJ .Is (.D 2) (.eT .none)) [.fail] [],.ret (.aX (.call (.gl 10) [.D 0,.D 2]) 54 [])]
noncomputable def be':Y bD:=[.dU (.D 0) 55 (.D 1),.dU (.D 0) 56 (.D 2),.dU (.D 0) 57 (.D 3),.dU (.D 0) 58 (.D 4)]
noncomputable def bd':Y bD:=[.ret (.aM [.bI (.D 0) 55,.bI (.D 0) 56,.bI (.D 0) 57,.bI (.D 0) 58])]
noncomputable def bc':Y bD:=[.dU (.D 0) 18 (.D 1),.dU (.D 0) 20 (.D 2),.dU (.D 0) 39 (.D 3)]
noncomputable def bb':Y bD:=[.ret (.aM [.bI (.D 0) 18,(.call (.gl 5) [.bI (.D 0) 20]),(.call (.gl 5) [.bI (.D 0) 39])])]
noncomputable def bl':Y bD:=[.dU (.D 0) 17 (.list []),.dU (.D 0) 59 (.list []),.dU (.D 0) 60 (.list []),.dU (.D 0) 61 (.list []),.dU (.D 0) 62 (.list []),.dU (.D 0) 63 (.list []),.dU (.D 0) 64 (.list []),.dU (.D 0) 65 (.eT .none),.dU (.D 0) 66 (.list []),.dU (.D 0) 67 (.list []),.dU (.D 0) 68 (.list [])]
noncomputable def bi':Y bD:=[.ret (.call (.gl 0) [(.aX (.D 0) 69 [.D 1])])]
noncomputable def bf':Y bD:=[.ret (.Bd (.bI (.D 2) 58) 2 (.bI (.D 0) 59) (.bJ .Eq (.bI (.D 2) 57) (.D 1)))]
noncomputable def bh':Y bD:=[.ret (.bO .Add (.aX (.D 0) 69 [(.n 0)]) (.comp (.bI (.D 1) 18) 1 (.bI (.D 0) 60)))]
noncomputable def bk':Y bD:=[.cU 2 (.aY (.list [.bI (.D 0) 60,.bI (.D 0) 61,.bI (.D 0) 62,.bI (.D 0) 63]) (.D 1)),.ret (.bO .Add (.aX (.D 0) 70 [.D 1]) (.call (.gl 0) [.D 2]))]
noncomputable def bg':Y bD:=[.cU 2 (.bO .Sub (.D 1) (.aX (.D 0) 70 [(.n 0)])),.ret (.ite (.bJ .GtE (.D 2) (.n 0)) (.aY (.bI (.D 0) 60) (.D 2)) (.eT .none))]
noncomputable def bj':Y bD:=[.ret (.aY (.bI (.D 0) 17) (.aY (.aX (.D 0) 71 []) (.D 1)))]
noncomputable def L5:Y bD:=[.cU 1 (.list [(.call (.gl 5) [.bI (.D 0) 17]),(.call (.gl 85) [.bI (.D 0) 59]),(.call (.gl 85) [.bI (.D 0) 60]),(.call (.gl 5) [.bI (.D 0) 61])]),.cU 1 (.bO .Add (.D 1) (.list [(.call (.gl 5) [.bI (.D 0) 62]),(.call (.gl 85) [.bI (.D 0) 63]),(.call (.gl 5) [.bI (.D 0) 64]),.bI (.D 0) 65])),.ret (.call (.gl 5) [(.bO .Add (.D 1) (.list [(.call (.gl 85) [.bI (.D 0) 66]),(.call (.gl 85) [.bI (.D 0) 67]),(.call (.gl 85) [.bI (.D 0) 68])]))])]
noncomputable def ce':Y bD:=[.ret (.call (.gl 5) [(.comp (.aX (.D 1) 72 []) 1 (.D 0))])]
noncomputable def bq':Y bD:=[.ret (.list [(.aM [.aM [],.aM []]),(.aM [.aM [],(.aM [.neg (.n 1)])]),(.aM [(.aM [.neg (.n 1)]),(.aM [.neg (.n 1)])]),(.aM [(.aM [.neg (.n 1),.neg (.n 1)]),(.aM [.neg (.n 1)])]),(.aM [(.aM [.neg (.n 1)]),(.aM [.neg (.n 1),.neg (.n 1)])]),(.aM [(.aM [.neg (.n 1),.neg (.n 1)]),(.aM [.neg (.n 1),.neg (.n 1)])])])]
noncomputable def br':Y bD:=[.cU 1 (.aY (.D 0) (.n 1)),.sA (.D 0) (.n 1) (.bO .Add (.D 1) (.n 1)),.ret (.bO .Add (.ite (.bJ .Lt (.D 1) (.call (.gl 0) [.aY (.D 0) (.n 0)])) (.aY (.aY (.D 0) (.n 0)) (.D 1)) (.n 0)) (.bO .Mult (.n 53) (.D 1)))]
noncomputable def bo':Y bD:=[.vC (.bJ .Lt (.D 1) (.D 2)) [.expr (.aX (.D 0) 0 [(.ite (.bJ .Eq (.bO .Mod (.D 3) (.n 2)) (.n 0)) (.aM [(.n 65),(.bO .Sub (.bO .Mod (.bO .FloorDiv (.D 3) (.n 2)) (.n 9)) (.n 2))]) (.aM [(.n 32),(.bO .Mod (.bO .FloorDiv (.D 3) (.n 2)) (.n 3))]))]),.cU 3 (.bO .Add (.bO .FloorDiv (.D 3) (.n 3)) (.n 1)),.AX 1 .Add (.n 1)],.ret (.D 1)]
noncomputable def bt':Y bD:=[.cP (.bJ .IsNot (.D 1) (.eT .none)) [.rE 3 (.call (.gl 3) [.bO .Sub (.D 1) (.D 2)]) [.expr (.aX (.D 0) 0 [(.aM [(.n 26)])])],.expr (.call (.gl 88) [.D 0,(.call (.gl 1) [.D 1,.D 2]),.D 2,(.n 4)])] []]
noncomputable def EH:Y bD:=[.cU 5 (.Bd (.D 9) 9 (.call (.gl 3) [(.call (.gl 0) [.D 2])]) (.bJ .Eq (.aY (.aY (.D 2) (.bO .Sub (.bO .Sub (.call (.gl 0) [.D 2]) (.n 1)) (.D 9))) (.n 1)) (.n 0))),.cU 6 (.aY (.D 5) (.bO .Mod (.D 4) (.call (.gl 0) [.D 5]))),.cU 7 (.aY (.aY (.D 2) (.bO .Sub (.bO .Sub (.call (.gl 0) [.D 2]) (.n 1)) (.D 6))) (.n 0)),.cP (.bJ .Eq (.D 3) (.n 12)) [.cU 1 (.call (.gl 88) [.D 0,.D 1,.D 7,.bO .FloorDiv (.D 4) (.n 7)]),.expr (.aX (.D 0) 2 [(.list [(.aM [(.n 32),(.bO .Mod (.bO .FloorDiv (.D 4) (.n 5)) (.n 3))]),(.aM [(.n 13),.D 6])])]),.ret (.D 1)] [],.cP (.and [.bJ .Eq (.D 3) (.n 13),(.bJ .Eq (.bO .Mod (.bO .FloorDiv (.D 4) (.n 3)) (.n 3)) (.n 1))]) [.jE [6,7] (.aM [(.bO .Sub (.call (.gl 0) [.D 2]) (.n 1)),(.aY (.aY (.D 2) (.n 0)) (.n 0))])] [],.expr (.call (.gl 88) [.D 0,.D 1,.D 7,.bO .FloorDiv (.D 4) (.n 7)]),.cP (.bJ .Eq (.D 3) (.n 14)) [.cU 8 (.Bd (.D 9) 9 (.D 5) (.bJ .Eq (.aY (.aY (.D 2) (.bO .Sub (.bO .Sub (.call (.gl 0) [.D 2]) (.n 1)) (.D 9))) (.n 0)) (.D 7))),.expr (.aX (.D 0) 2 [(.list [(.aM [(.n 32),(.bO .Mod (.bO .FloorDiv (.D 4) (.n 5)) (.n 3))]),(.aM [(.n 14),(.aY (.D 8) (.bO .Mod (.bO .FloorDiv (.D 4) (.n 3)) (.call (.gl 0) [.D 8]))),(.aY (.D 8) (.bO .Mod (.bO .FloorDiv (.D 4) (.n 11)) (.call (.gl 0) [.D 8]))),.D 6])])])] [.expr (.aX (.D 0) 0 [(.aY (.list [(.aM [(.n 12),.D 6]),(.aM [(.n 15)]),(.aM [(.n 0)])]) (.bO .Mod (.bO .FloorDiv (.D 4) (.n 3)) (.n 3)))])],.expr (.aX (.D 0) 2 [(.aY (.list [.list [],(.list [(.aM [(.n 106)]),(.aM [(.n 26)])]),(.list [(.aM [(.n 65),(.n 3)]),(.aM [(.n 33),(.n 0)])]),(.list [(.aM [(.n 2),.neg (.n 64)]),(.aM [(.n 65),(.n 1)]),(.aM [(.n 4),.neg (.n 64)]),(.aM [(.n 5)]),(.aM [(.n 11)]),(.aM [(.n 11)])])]) (.bO .Mod (.D 4) (.n 4)))]),.ret (.eT .none)]
noncomputable def qE:Y bD:=[.cU 6 (.ite (.D 4) (.aY (.aM [(.n 0),(.n 2),(.n 5)]) (.bO .Mod (.D 5) (.n 3))) (.bO .Mod (.D 5) (.n 6))),.jE [10,11] (.aM [(.call (.gl 0) [(.aY (.aY (.call (.gl 86) []) (.D 6)) (.n 0))]),(.call (.gl 0) [(.aY (.aY (.call (.gl 86) []) (.D 6)) (.n 1))])]),.cU 7 (.ite (.and [.not (.D 4),(.bJ .Eq (.bO .Mod (.bO .FloorDiv (.D 5) (.n 6)) (.n 2)) (.n 1))]) (.n 1) (.n 0)),.cU 2 (.call (.gl 88) [.D 1,.D 2,.bO .Add (.D 10) (.D 7),.bO .FloorDiv (.D 5) (.n 12)]),.expr (.aX (.D 1) 0 [(.aM [(.ite (.D 4) (.n 3) (.bO .Add (.n 2) (.bO .Mult (.n 2) (.D 7)))),(.aX (.dict [(.n 0),.neg (.n 64),(.n 1),.neg (.n 1)]) 3 [.D 6,.D 6])])]),.cU 8 (.bO .Add (.D 3) (.list [(.ite (.D 4) (.aM [.D 10,(.n 1)]) (.aM [.D 11,(.n 0)]))])),.cU 9 (.call (.gl 92) [.D 0,.D 1,.D 10,.D 8]),.cP (.and [.D 4,.bJ .IsNot (.D 9) (.eT .none)]) [.expr (.call (.gl 89) [.D 1,.D 9,.D 10]),.expr (.aX (.D 1) 2 [(.list [(.aM [(.n 32),(.n 3)]),(.aM [(.n 65),(.n 1)]),(.aM [(.n 118)]),(.aM [(.n 34),(.n 3)]),(.aM [(.n 13),(.n 0)])])]),.cU 9 (.D 10)] [],.expr (.call (.gl 89) [.D 1,.D 9,.D 11]),.cP (.and [.bJ .Eq (.D 7) (.n 1),(.or [.bJ .NotEq (.D 10) (.D 11),(.bJ .Eq (.bO .Mod (.bO .FloorDiv (.D 5) (.n 12)) (.n 2)) (.n 0))])]) [.expr (.aX (.D 1) 0 [(.aM [(.n 5)])]),.expr (.call (.gl 89) [.D 1,(.call (.gl 92) [.D 0,.D 1,.D 10,.D 8]),.D 11])] [],.expr (.aX (.D 1) 0 [(.aM [(.n 11)])]),.ret (.bO .Add (.bO .Sub (.bO .Sub (.D 2) (.D 10)) (.D 7)) (.D 11))]
noncomputable def bp':Y bD:=[.rE 4 (.call (.gl 3) [(.bO .Add (.n 1) (.bO .Mod (.call (.gl 87) [.D 0]) (.n 3)))]) [.cP (.and [(.bJ .Gt (.aY (.D 0) (.n 2)) (.n 0)),.bJ .IsNot (.D 2) (.eT .none)]) [.cU 2 (.call (.gl 93) [.D 0,.D 1,.D 2,.D 3])] []],.ret (.D 2)]
noncomputable def HO:Y bD:=[.Je (.D 0) (.n 2) .Sub (.n 1),.cU 4 (.call (.gl 87) [.D 0]),.jE [6,4] (.aM [.bO .Mod (.D 4) (.n 16),.bO .FloorDiv (.D 4) (.n 16)]),.cP (.bJ .Lt (.D 6) (.n 4)) [.expr (.aX (.D 1) 0 [(.ite (.bJ .Lt (.D 6) (.n 2)) (.aM [(.n 65),(.bO .Sub (.bO .Mod (.D 4) (.n 9)) (.n 2))]) (.aM [(.n 32),.bO .Mod (.D 4) (.n 3)]))]),.ret (.bO .Add (.D 2) (.n 1))] [],.cP (.and [(.bJ .In (.D 6) (.aM [(.n 10),(.n 11)])),(.bJ .Lt (.call (.gl 0) [.D 3]) (.n 5))]) [.ret (.call (.gl 91) [.D 0,.D 1,.D 2,.D 3,.bJ .Eq (.D 6) (.n 11),.D 4])] [],.cP (.xE .Lt .Lt (.n 11) (.D 6) (.n 15)) [.ret (.call (.gl 90) [.D 1,.D 2,.D 3,.D 6,.D 4])] [],.cU 5 (.aX (.dict [(.n 4),(.n 2),(.n 9),(.n 3),(.n 15),(.n 2)]) 3 [.D 6,(.n 1)]),.cU 2 (.call (.gl 88) [.D 1,.D 2,.D 5,.bO .FloorDiv (.D 4) (.n 7)]),.expr (.aX (.D 1) 0 [(.aX (.dict [(.n 4),(.aM [(.aY (.eT (.aM [(.int 106),(.int 107),(.int 108),(.int 115),(.int 118),(.int 70),(.int 73)])) (.bO .Mod (.D 4) (.n 7)))]),(.n 5),(.aM [(.n 69)]),(.n 6),(.aM [(.n 33),.bO .Mod (.D 4) (.n 3)]),(.n 7),(.aM [(.n 34),.bO .Mod (.D 4) (.n 3)]),(.n 8),(.aM [(.n 26)]),(.n 9),(.aM [(.n 27)]),(.n 15),(.aM [(.n 16),(.n 0)])]) 3 [.D 6,(.aM [(.n 1)])])]),.ret (.bO .Sub (.D 2) (.aX (.dict [(.n 4),(.n 1),(.n 6),(.n 1),(.n 8),(.n 1),(.n 9),(.n 2)]) 3 [.D 6,(.n 0)]))]
noncomputable def QE:Y bD:=[.jE [2,3,4] (.aM [(.list [.D 0,(.n 0),(.call (.gl 2) [(.n 3),(.call (.gl 1) [(.n 14),(.call (.gl 0) [.D 0])])])]),(.list [(.aM [(.n 65),(.n 7)]),(.aM [(.n 33),(.n 3)])]),(.n 0)]),.vC (.and [(.bJ .Gt (.aY (.D 2) (.n 2)) (.n 0)),.bJ .IsNot (.D 4) (.eT .none)]) [.cU 4 (.call (.gl 93) [.D 2,.D 3,.D 4,(.list [(.aM [(.n 2),(.n 0)])])])],.expr (.call (.gl 89) [.D 3,.D 4,(.n 2)]),.cU 1 (.call (.gl 13) []),.dU (.D 1) 17 (.call (.gl 4) [.call (.gl 86) []]),.dU (.D 1) 59 (.list [(.call (.gl 11) [.eT (.str "h"),.eT (.str "f"),(.n 0),(.n 5)])]),.dU (.D 1) 60 (.list [(.call (.gl 12) [(.n 5),(.aM [.neg (.n 1),.neg (.n 1)]),(.bO .Add (.D 3) (.list [(.aM [(.n 11)])]))])]),.ret (.D 1)]
noncomputable def bv':Y bD:=[.cP (.bJ .Eq (.D 0) (.n 69)) [.ret (.ite (.bJ .Eq (.D 1) (.n 0)) (.n 1) (.n 0))] [],.cP (.bJ .In (.D 0) (.aM [(.n 70),(.n 73)])) [.ret (.ite (.ite (.bJ .Eq (.D 0) (.n 70)) (.bJ .Eq (.D 1) (.D 2)) (.bJ .Lt (.D 1) (.D 2))) (.n 1) (.n 0))] [],.cP (.bJ .Eq (.D 0) (.n 115)) [.ret (.bO .BitXor (.D 1) (.D 2))] [],.cP (.bJ .Eq (.D 0) (.n 118)) [.ret (.bO .RShift (.D 1) (.bO .Mod (.D 2) (.n 32)))] [],.ret (.bO .Mod (.aY (.dict [(.n 106),.bO .Add (.D 1) (.D 2),(.n 107),.bO .Sub (.D 1) (.D 2),(.n 108),.bO .Mult (.D 1) (.D 2)]) (.D 0)) (.bO .Pow (.n 2) (.n 32)))]
noncomputable def bn':Y bD:=[.expr (.aX (.D 0) 0 [(.aM [.D 1,.D 2])]),.ret (.list [.D 2,(.bO .Mod (.bO .Add (.D 1) (.n 1)) (.bO .Pow (.n 2) (.n 32)))])]
noncomputable def Jf:Y bD:=[.jE [2,3,4] (.aM [.dict [],.dict [],.list []]),.rE 1 (.call (.gl 3) [(.bO .Sub (.call (.gl 0) [.D 0]) (.n 1))]) [.cP (.bJ .In (.aY (.aY (.D 0) (.D 1)) (.n 0)) (.aM [(.n 2),(.n 3),(.n 4)])) [.expr (.aX (.D 4) 0 [.D 1])] [.cP (.bJ .Eq (.aY (.aY (.D 0) (.D 1)) (.n 0)) (.n 5)) [.sA (.D 3) (.aY (.D 4) (.neg (.n 1))) (.D 1)] [.cP (.bJ .Eq (.aY (.aY (.D 0) (.D 1)) (.n 0)) (.n 11)) [.sA (.D 2) (.aX (.D 4) 1 []) (.D 1)] []]]],.ret (.aM [.D 2,.D 3])]
noncomputable def bu':Y bD:=[.cP (.bJ .Lt (.D 0) (.n 0)) [.ret (.aM [(.n 0),(.ite (.bJ .Eq (.D 0) (.neg (.n 64))) (.n 0) (.n 1))])] [],.ret (.aM [(.call (.gl 0) [(.aY (.aY (.call (.gl 86) []) (.D 0)) (.n 0))]),(.call (.gl 0) [(.aY (.aY (.call (.gl 86) []) (.D 0)) (.n 1))])])]
noncomputable def bs':Y bD:=[.cU 4 (.aY (.D 0) (.n 0)),.cP (.bJ .Eq (.D 4) (.n 65)) [.expr (.aX (.D 1) 0 [(.bO .Mod (.aY (.D 0) (.n 1)) (.bO .Pow (.n 2) (.n 32)))])] [.cP (.bJ .Eq (.D 4) (.n 32)) [.expr (.aX (.D 1) 0 [(.aY (.D 2) (.aY (.D 0) (.n 1)))])] [.cP (.bJ .In (.D 4) (.aM [(.n 33),(.n 34)])) [.sA (.D 2) (.aY (.D 0) (.n 1)) (.aY (.D 1) (.neg (.n 1))),.cP (.bJ .Eq (.D 4) (.n 33)) [.expr (.aX (.D 1) 1 [])] []] [.cP (.bJ .Eq (.D 4) (.n 26)) [.expr (.aX (.D 1) 1 [])] [.cP (.bJ .Eq (.D 4) (.n 27)) [.jE [5,6] (.aM [.aX (.D 1) 1 [],.aX (.D 1) 1 []]),.cP (.bJ .Eq (.D 5) (.n 0)) [.sA (.D 1) (.neg (.n 1)) (.D 6)] []] [.cP (.bJ .Eq (.D 4) (.n 16)) [.jE [7,8] (.aM [.aX (.D 1) 1 [],.aX (.D 1) 1 []]),.expr (.aX (.D 1) 2 [(.call (.gl 96) [.D 3,.D 8,.D 7])])] [.cP (.bJ .Eq (.D 4) (.n 69)) [.expr (.aX (.D 1) 0 [(.call (.gl 95) [.D 4,.aX (.D 1) 1 [],(.n 0)])])] [.cP (.bJ .NotEq (.D 4) (.n 1)) [.jE [7,8] (.aM [.aX (.D 1) 1 [],.aX (.D 1) 1 []]),.expr (.aX (.D 1) 0 [(.call (.gl 95) [.D 4,.D 8,.D 7])])] []]]]]]]]]
noncomputable def EG:Y bD:=[.jE [4,5] (.call (.gl 97) [.D 0]),.jE [6,7,8,9] (.aM [(.bO .Add (.call (.gl 4) [.D 1]) (.list [(.n 0),(.n 0)])),.list [],.list [],(.n 0)]),.rE 3 (.call (.gl 3) [(.n 2000)]) [.jE [11,12,9] (.aM [.aY (.D 0) (.D 9),.D 9,.bO .Add (.D 9) (.n 1)]),.cU 10 (.aY (.D 11) (.n 0)),.cP (.bJ .Eq (.D 10) (.n 11)) [.cP (.bJ .Eq (.D 8) (.list [])) [.ret (.oO (.D 7) (.bO .Sub (.call (.gl 0) [.D 7]) (.n 2)) (.eT .none))] [],.expr (.aX (.D 8) 1 [])] [.cP (.bJ .Eq (.D 10) (.n 5)) [.cU 9 (.aY (.aY (.D 8) (.neg (.n 1))) (.n 5))] [.cP (.bJ .In (.D 10) (.aM [(.n 2),(.n 3),(.n 4)])) [.cU 13 (.ite (.bJ .Eq (.D 10) (.n 4)) (.aX (.D 7) 1 []) (.n 1)),.jE [14,15] (.call (.gl 98) [.aY (.D 11) (.n 1)]),.expr (.aX (.D 8) 0 [(.aM [.D 10,.D 14,.D 15,(.bO .Sub (.call (.gl 0) [.D 7]) (.D 14)),.D 12,.aY (.D 4) (.D 12)])]),.cP (.bJ .Eq (.D 13) (.n 0)) [.cU 9 (.ite (.bJ .In (.D 12) (.D 5)) (.bO .Add (.aY (.D 5) (.D 12)) (.n 1)) (.aY (.D 4) (.D 12)))] []] [.cP (.bJ .Eq (.D 10) (.n 0)) [.ret (.list [.eT (.str "trap")])] [.cP (.xE .LtE .LtE (.n 12) (.D 10) (.n 15)) [.cU 16 (.ite (.bJ .Eq (.D 10) (.n 15)) (.call (.gl 0) [.D 8]) (.aY (.D 11) (.n 1))),.cP (.bJ .Eq (.D 10) (.n 14)) [.cU 16 (.aY (.D 11) (.bO .Add (.n 1) (.call (.gl 1) [.aX (.D 7) 1 [],(.bO .Sub (.call (.gl 0) [.D 11]) (.n 2))])))] [],.cP (.and [.bJ .Eq (.D 10) (.n 13),(.bJ .Eq (.aX (.D 7) 1 []) (.n 0))]) [.cont] [],.cP (.bJ .Eq (.D 16) (.call (.gl 0) [.D 8])) [.ret (.oO (.D 7) (.bO .Sub (.call (.gl 0) [.D 7]) (.n 2)) (.eT .none))] [],.cU 17 (.aY (.D 8) (.bO .Sub (.bO .Sub (.call (.gl 0) [.D 8]) (.n 1)) (.D 16))),.cU 18 (.ite (.bJ .Eq (.aY (.D 17) (.n 0)) (.n 3)) (.aY (.D 17) (.n 1)) (.aY (.D 17) (.n 2))),.cU 7 (.bO .Add (.oO (.D 7) (.eT .none) (.aY (.D 17) (.n 3))) (.oO (.D 7) (.bO .Sub (.call (.gl 0) [.D 7]) (.D 18)) (.eT .none))),.cU 8 (.bO .Add (.oO (.D 8) (.eT .none) (.bO .Sub (.bO .Sub (.call (.gl 0) [.D 8]) (.n 1)) (.D 16))) (.ite (.bJ .Eq (.aY (.D 17) (.n 0)) (.n 3)) (.list [.D 17]) (.list []))),.cU 9 (.bO .Add (.ite (.bJ .Eq (.aY (.D 17) (.n 0)) (.n 3)) (.aY (.D 17) (.n 4)) (.aY (.D 17) (.n 5))) (.n 1))] [.expr (.call (.gl 99) [.D 11,.D 7,.D 6,.D 2])]]]]]],.ret (.eT .none)]
noncomputable def HN:Y bD:=[.jE [4,5] (.aM [(.bO .Add (.call (.gl 4) [.D 1]) (.call (.gl 4) [.bI (.D 0) 7])),(.n 0)]),.expr (.aX (.D 4) 2 [(.bO .Mult (.list [(.n 99)]) (.bO .Sub (.bI (.D 0) 5) (.call (.gl 0) [.D 4])))]),.rE 3 (.call (.gl 3) [(.n 4000)]) [.jE [6,7,8,9] (.aY (.bI (.D 0) 4) (.D 5)),.AX 5 .Add (.n 1),.cP (.bJ .Eq (.D 6) (.n 256)) [.sA (.D 4) (.D 7) (.aY (.D 4) (.D 8))] [.cP (.bJ .Eq (.D 6) (.n 257)) [.sA (.D 4) (.D 7) (.D 8)] [.cP (.bJ .Eq (.D 6) (.n 258)) [.sA (.D 4) (.D 7) (.ite (.bJ .NotEq (.aY (.D 4) (.bO .Add (.D 7) (.n 2))) (.n 0)) (.aY (.D 4) (.D 7)) (.aY (.D 4) (.bO .Add (.D 7) (.n 1))))] [.cP (.bJ .Eq (.D 6) (.n 259)) [.cU 5 (.D 7)] [.cP (.bJ .In (.D 6) (.aM [(.n 260),(.n 261)])) [.cU 5 (.ite (.bJ .Eq (.bJ .NotEq (.aY (.D 4) (.D 8)) (.n 0)) (.bJ .Eq (.D 6) (.n 260))) (.D 7) (.D 5))] [.cP (.bJ .Eq (.D 6) (.n 262)) [.cU 5 (.aY (.D 8) (.call (.gl 1) [.aY (.D 4) (.D 7),(.bO .Sub (.call (.gl 0) [.D 8]) (.n 1))]))] [.cP (.bJ .Eq (.D 6) (.n 263)) [.Jd (.D 4) (.D 8) (.bO .Add (.D 8) (.n 2)) (.call (.gl 96) [.D 2,.aY (.D 4) (.D 8),(.aY (.D 4) (.bO .Add (.D 8) (.n 1)))])] [.cP (.bJ .Eq (.D 6) (.n 267)) [.ret (.oO (.D 4) (.D 7) (.bO .Add (.D 7) (.D 8)))] [.cP (.bJ .Eq (.D 6) (.n 0)) [.ret (.list [.eT (.str "trap")])] [.cP (.bJ .GtE (.D 6) (.n 4096)) [.cU 10 (.call (.gl 95) [.bO .Mod (.D 6) (.n 4096),.aY (.D 4) (.D 8),(.ite (.bJ .Lt (.D 6) (.n 12288)) (.aY (.D 4) (.D 9)) (.D 9))]),.cP (.xE .LtE .Lt (.n 16384) (.D 6) (.n 20480)) [.sA (.D 4) (.D 7) (.D 10)] [.cP (.bJ .Eq (.bJ .NotEq (.D 10) (.n 0)) (.bJ .In (.bO .FloorDiv (.D 6) (.n 4096)) (.aM [(.n 1),(.n 5)]))) [.cU 5 (.D 7)] []]] [.sA (.D 4) (.D 7) (.call (.gl 95) [.D 6,.aY (.D 4) (.D 8),.aY (.D 4) (.D 9)])]]]]]]]]]]],.ret (.eT .none)]
noncomputable def oJ:Y bD:=[.cU 1 (.call (.gl 94) [(.call (.gl 4) [.D 0])]),.jE [4,5] (.aM [.aX (.D 1) 72 [],(.bI (.aY (.bI (.D 1) 60) (.n 0)) 39)]),.cU 2 (.list [(.bO .Mod (.call (.gl 6) [.D 0]) (.bO .Pow (.n 2) (.n 32))),(.bO .Mod (.call (.gl 0) [.D 0]) (.n 4))]),.jE [6,7] (.aM [.list [],.list []]),.cU 3 (.call (.gl 72) [.D 1,(.n 1)]),.cP (.or [(.bJ .NotEq (.call (.gl 101) [.D 3,.D 2,.D 7]) (.call (.gl 100) [.D 5,.D 2,.D 6])),.bJ .NotEq (.D 7) (.D 6)]) [.ret (.eT (.bool aE))] [],.ret (.bJ .Eq (.aX (.D 1) 72 []) (.D 4))]
def Sg(gH:Y J):Y Kind:=[
 .blt .len,
 .blt .min,
 .blt .max,
 .blt .range,
 .blt .list,
 .blt .tuple,
 .blt .sum,
 .kX,
 .cls 24,
 .cls 25,
 .cls 26,
 .cls 73,
 .cls 75,
 .cls 77,
 .fn 1 1 cb',
 .fn 1 1 bz',
 .fn 2 2 bw',
 .fn 1 1 bY',
 .fn 1 1 bZ',
 .fn 1 1 bW',
 .fn 1 1 bS',
 .fn 1 1 bX',
 .fn 3 5 ck',
 .fn 2 8 cg',
 .fn 6 6 bm',
 .fn 5 5 ba',
 .fn 3 5 aZ',
 .fn 1 1 aK',
 .fn 2 2 aR',
 .fn 5 5 aG',
 .fn 2 2 aI',
 .fn 2 2 aO',
 .fn 1 2 aP',
 .fn 1 1 aN',
 .fn 3 5 aQ',
 .fn 3 5 aX',
 .fn 2 2 aU',
 .fn 2 4 aW',
 .fn 1 1 aV',
 .fn 2 3 aF',
 .fn 2 5 aT',
 .fn 2 3 aY',
 .fn 3 10 aS',
 .fn 1 8 aD',
 .fn 4 7 aC',
 .fn 2 3 aH',
 .fn 3 6 aJ',
 .fn 3 5 aL',
 .fn 3 6 aM',
 .fn 1 1 aE',
 .fn 1 5 QC,
 .fn 2 4 QD,
 .fn 2 2 bK',
 .fn 2 2 bP',
 .fn 2 2 bA',
 .fn 2 4 bG',
 .fn 2 3 Wy,
 .fn 2 3 L6,
 .fn 2 5 bB',
 .fn 2 7 bC',
 .fn 2 10 QF,
 .fn 2 2 bM',
 .fn 2 3 cf',
 .fn 2 5 bD',
 .fn 2 2 bF',
 .fn 2 7 bN',
 .fn 2 2 bH',
 .fn 2 3 bI',
 .fn 2 3 bJ',
 .fn 2 3 bE',
 .fn 2 4 bL',
 .fn 2 7 bO',
 .fn 2 3 ci',
 .fn 5 5 be',
 .fn 1 1 bd',
 .fn 4 4 bc',
 .fn 1 1 bb',
 .fn 1 1 bl',
 .fn 2 2 bi',
 .fn 2 3 bf',
 .fn 1 2 bh',
 .fn 2 3 bk',
 .fn 2 3 bg',
 .fn 2 2 bj',
 .fn 1 2 L5,
 .fn 1 2 ce',
 .fn 0 0 bq',
 .fn 1 2 br',
 .fn 4 4 bo',
 .fn 3 4 bt',
 .fn 5 10 EH,
 .fn 6 12 qE,
 .fn 4 5 bp',
 .fn 4 7 HO,
 .fn 1 5 QE,
 .fn 3 3 bv',
 .fn 3 3 bn',
 .fn 1 5 Jf,
 .fn 1 1 bu',
 .fn 4 9 bs',
 .fn 3 19 EG,
 .fn 3 11 HN,
 .kX,
 .kX,
 .kX,
 .fn 1 8 oJ,
 .kX,
 .rD [(-1,(.str "i32")),(-2,(.str "i64")),(-16,(.str "funcref")),(-17,(.str "externref"))],
 .rD [(-16,(.str "func")),(-17,(.str "extern"))],
 .rD [(40,(.aM [(.int (-1)),(.int 4),(.int 0)])),(41,(.aM [(.int (-2)),(.int 8),(.int 0)])),(44,(.aM [(.int (-1)),(.int 1),(.int 1)])),(45,(.aM [(.int (-1)),(.int 1),(.int 0)])),(46,(.aM [(.int (-1)),(.int 2),(.int 1)])),(47,(.aM [(.int (-1)),(.int 2),(.int 0)])),(48,(.aM [(.int (-2)),(.int 1),(.int 1)])),(49,(.aM [(.int (-2)),(.int 1),(.int 0)])),(50,(.aM [(.int (-2)),(.int 2),(.int 1)])),(51,(.aM [(.int (-2)),(.int 2),(.int 0)])),(52,(.aM [(.int (-2)),(.int 4),(.int 1)])),(53,(.aM [(.int (-2)),(.int 4),(.int 0)]))],
 .rD [(54,(.aM [(.int (-1)),(.int 4)])),(55,(.aM [(.int (-2)),(.int 8)])),(58,(.aM [(.int (-1)),(.int 1)])),(59,(.aM [(.int (-1)),(.int 2)])),(60,(.aM [(.int (-2)),(.int 1)])),(61,(.aM [(.int (-2)),(.int 2)])),(62,(.aM [(.int (-2)),(.int 4)]))],
 .rD [(0,(.g 53)),(1,(.g 52)),(2,(.g 54)),(3,(.g 54)),(4,(.g 55)),(5,(.g 56)),(11,(.g 57)),(12,(.g 58)),(13,(.g 59)),(14,(.g 60)),(15,(.g 61)),(16,(.g 63)),(18,(.g 63)),(17,(.g 113)),(19,(.g 113)),(26,(.g 64)),(27,(.g 65)),(28,(.g 65)),(32,(.g 66)),(33,(.g 67)),(34,(.g 68)),(35,(.g 114)),(36,(.g 115)),(37,(.g 122)),(38,(.g 123)),(63,(.g 119)),(65,(.g 69)),(66,(.g 69)),(208,(.g 116)),(209,(.g 117)),(210,(.g 118)),(64520,(.g 121)),(64521,(.g 120)),(64522,(.g 121)),(64523,(.g 121)),(64524,(.g 121)),(64525,(.g 120)),(64526,(.g 121)),(64527,(.g 124)),(64528,(.g 125)),(64529,(.g 121))],
 .sH gH,
 .kX,
 .kX,
 .kX,
 .kX,
 .kX,
 .kX,
 .kX,
 .kX,
 .kX,
 .kX,
 .kX,
 .kX,
 .kX,
 .kX]
noncomputable def KV:Y (O×O×O):=[(10,36,27),(10,37,28),(10,30,29),(10,28,30),(10,29,31),(10,49,32),(10,1,33),(10,31,34),(10,48,35),(10,32,36),(10,33,37),(10,35,38),(10,51,39),(10,34,40),(10,44,41),(10,52,42),(10,42,43),(10,43,44),(10,45,45),(10,47,46),(10,46,47),(10,38,48),(10,41,49),(10,54,50),(10,40,51),(11,72,74),(12,72,76),(13,70,78),(13,69,79),(13,71,80),(13,53,81),(13,16,82),(13,50,83),(13,72,84)]
noncomputable def Jk:Y (O×O):=[(8,4),(8,5),(8,6),(8,7),(8,8),(9,9),(9,10),(9,6),(9,8),(9,11),(9,12),(9,13),(9,14),(10,15),(10,16),(10,19),(10,8),(10,4),(10,21),(10,22),(10,23),(10,24),(10,25),(10,26),(10,27),(11,55),(11,56),(11,57),(11,58),(12,18),(12,20),(12,39),(13,17),(13,59),(13,60),(13,61),(13,62),(13,63),(13,64),(13,65),(13,66),(13,67),(13,68)]
def cx(gH:Y J):Cx where
 kind n:=(Sg gH).getD n .kX
 aX c a:=((KV).find? λe=>e.1==c&&e.2.1==a).map (·.2.2)
 qF c a:=Jk.any λe=>e.1==c&&e.2==a
 fr n:=hU n 72||(hU n 51||(hU n 23||(hU n 101||(hU n 100||hU n 84))))
noncomputable def ax':Y lA:=["append","pop","extend","get","rows","slots","params","zeros","results","code","height","end_label","begin_label","else_label","is_used","module","func","kinds","kind","first","locals","labels","fence","stack","most","frames","is_live","skipped","home","push","emit","put","settle","settle_top","save_local","settle_all","label","put_label","open_block","body","take","die","condition","branch","stack_of_height","goal","move_to","is_there","slot_of","push_home","kind_of_func","drop_top","put_local","many","all_rows","place","name","sort","about","imports","funcs","tables","memories","globals","exports","start","elems","datas","customs","abouts","imported","func_kinds","plain"]
noncomputable def pW':Y (O×Y lA):=[(14,["kind"]),(15,["kind"]),(16,["kinds","told"]),(17,["code"]),(18,["code"]),(19,["code"]),(20,["op"]),(21,["op"]),(22,["rows","labels","label","at","turn"]),(23,["rows","labels","found","op","a","b","c","label"]),(24,["self","rows","slots","params","zeros","results"]),(25,["self","code","height","params","results"]),(26,["self","module","func","params","results"]),(27,["self"]),(28,["self","label"]),(29,["self","op","a","b","c"]),(30,["self","height"]),(31,["self","entry"]),(32,["self","slot"]),(33,["self"]),(34,["self","slot","entry","sort","about"]),(35,["self","entry","height","sort","about"]),(36,["self","height"]),(37,["self","many","begin","height"]),(38,["self"]),(39,["self","many","turn"]),(40,["self","index","found","height","entry"]),(41,["self","height","place"]),(42,["self","index","entry","is_last","saved","temp","op","a","b","c"]),(43,["self","entry","temp","is_joined","op","a","b","c"]),(44,["self","told","sense","label","op","b","c"]),(45,["self","depth","frame"]),(46,["self","frame","many","begin","homes","place"]),(47,["self","frame","many","begin","place"]),(48,["self","code","kind","frame","params","results"]),(49,["self"]),(50,["self","instruction","zeros","params","kind"]),(51,["self","instruction","code","doer"]),(52,["made","instruction"]),(53,["made","instruction"]),(54,["made","instruction"]),(55,["made","instruction","told","frame"]),(56,["made","instruction","frame"]),(57,["made","instruction","frame"]),(58,["made","instruction","frame","many","label"]),(59,["made","instruction","told","over","frame","many","label"]),(60,["made","instruction","entry","depth","slot","stubs","goals","frame","many","label"]),(61,["made","instruction"]),(62,["made","many","turn"]),(63,["made","instruction","first","params","results"]),(64,["made","instruction"]),(65,["made","instruction","second","sort","about","first","height"]),(66,["made","instruction"]),(67,["made","instruction","entry"]),(68,["made","instruction","entry"]),(69,["made","instruction","bits"]),(70,["made","instruction","entry","slot"]),(71,["made","instruction","first","height","held","code","second"]),(72,["module","index","func"]),(73,["self","place","name","sort","about"]),(74,["self"]),(75,["self","kind","locals_now","body"]),(76,["self"]),(77,["self"]),(78,["self","sort"]),(79,["self","sort","one"]),(80,["self","func"]),(81,["self","sort","own"]),(82,["self","index","place"]),(83,["self","index"]),(84,["self","own"]),(85,["things","thing"]),(86,[]),(87,["pen","at"]),(88,["body","high","many","x"]),(89,["body","high","many","turn"]),(90,["body","high","labels","way","x","outer","depth","many","alike","k"]),(91,["pen","body","high","labels","is_loop","x","mark","more","inner","here","params","results"]),(92,["pen","body","high","labels","turn"]),(93,["pen","body","high","labels","x","many","way"]),(94,["script","module","pen","body","high"]),(95,["code","x","y"]),(96,["heard","x","y"]),(97,["body","at","ends","elses","opened"]),(98,["mark"]),(99,["op","stack","places","heard","code","asked","second","y","x"]),(100,["body","values","heard","turn","ends","elses","places","stack","frames","at","code","op","here","asked","params","results","depth","frame","many"]),(101,["made","values","heard","turn","slots","at","op","a","b","c","value"]),(105,["script","module","values","made","before","body","heard","told"])]
structure Wd where
 prog:PU
 w:jS
 G:Cx
 lX:O->aG aJ
 an:O->aG aU
 h0:bS
variable{W:Wd}
abbrev Mp:=Y (bC×aG bC)
variable{S μ' μ1 μk:Mp}
noncomputable def lS(p:bC×aG bC):Y bC:=p.1::p.2.toList
def gD(S:Mp)(a:bC):Prop:=∃p∈S,a∈lS p
def Wc(h:bS)(a:bC)(lo hi:J):Prop:=∃t aN v,IsRange h a lo hi 1 t aN v
def oH(h:bS)(a:bC)(items:gN aJ):Prop:=∃n,h.get? a=Z {cls:=.type "list",dict:=aB,data:=.seq items n,slots:= #[]}
def BW(h:bS)(a:bC)(items:gN aJ):Prop:=∃n,h.get? a=Z {cls:=.type "tuple",dict:=aB,data:=.seq items n,slots:= #[]}
theorem oH.is{a:bC}(x:oH h a items):h.IsList a items:=let ⟨n,e⟩:=x;⟨_,e,rfl,n,rfl⟩
theorem BW.is{a:bC}(x:BW h a items):h.IsTuple a items:=let ⟨n,e⟩:=x;⟨_,e,rfl,n,rfl⟩
class inductive cB (W:Wd) (S:Mp) (h:bS):V->aJ->Prop where
 | none:cB W S h .none .none
 | bool(b:aC):cB W S h (.bool b) (.bool b)
 | int(i:J)(t:sZ):cB W S h (.int i) (.int i t)
 | str(s:lA)(t:sZ):cB W S h (.str s) (.str (bR s) t)
 | aM{xs:Y V}{a:bC}{items:gN aJ}(hz:xs.length<=aF)(ht:BW h a items)(hl:xs.length=items.size)(hr:∀(i:O) x y,xs[i]?=Z x->items[i]?=Z y->cB W S h x y):cB W S h (.aM xs) (.ref a)
 | ref{i:O}{p:bC×aG bC}(hp:S[i]?=Z p):cB W S h (.ref i) (.ref p.1)
 | g{n:O}{v:aJ}(hg:W.lX n=Z v):cB W S h (.g n) v
 | gG{lo hi:J}{a:bC}(hb:(jR lo&&jR hi)=u)(hr:Wc h a lo hi):cB W S h (.gG lo hi) (.ref a)
class inductive cX (W:Wd) (S:Mp) (h:bS):Y V->Y aJ->Prop where
 | nil:cX W S h [] []
 | cons{x:V}{y:aJ}{xs:Y V}{ys:Y aJ}(hx:cB W S h x y)(hs:cX W S h xs ys):cX W S h (x::xs) (y::ys)
section
variable{x:V}{U8:Y V}{ys yF:Y aJ}
theorem cX.length(r:cX W S h xs ys):xs.length=ys.length:=by
 induction r with
 | nil=>rfl
 | cons _ _ ih=>exact aW FD ih
theorem cX.size(r:cX W S h xs items.toList):xs.length=items.size:=r.length
theorem cX.aY(r:cX W S h xs ys):∀(i:O) x y,xs[i]?=Z x->ys[i]?=Z y->cB W S h x y:=by
 induction r with
 | nil=>exact λi x y e=>cI e
 | cons hx _ ih=>exact λi=>match i with
  | 0=>λx y e e'=>aT e▸aT e'▸hx
  | i+1=>ih i
theorem cX.of:∀{xs:Y V} {ys:Y aJ},xs.length=ys.length->(∀(i:O) x y,xs[i]?=Z x->ys[i]?=Z y->cB W S h x y)->cX W S h xs ys:=λ{xs}=>by
 induction xs with
 | nil=>exact λ{ys} e _=>by cases ys with
  | nil=>exact .nil
  | cons=>exact PP e
 | cons x xs ih=>exact λ{ys} e r=>by cases ys with
  | nil=>exact PP e
  | cons y ys=>exact .cons (r 0 x y rfl rfl) (ih (Vo e) λi=>r (i+1))
theorem cB.Ip{a:bC}(hz:xs.length<=aF)(ht:BW h a items)(r:cX W S h xs items.toList):cB W S h (.aM xs) (.ref a):=
 .aM hz ht r.length λi x y e e'=>r.aY i x y e (by rw[Dl];exact e')
theorem cX.append(r:cX W S h xs ys)(r':cX W S h U8 yF):cX W S h (xs++U8) (ys++yF):=by
 induction r with
 | nil=>exact r'
 | cons hx _ ih=>exact .cons hx ih
theorem cX.get(r:cX W S h xs ys){k:O}{x:V}(e:xs[k]?=Z x):fQ (λy=>ys[k]?=Z y) (λy=>cB W S h x y):=by have hk:k<ys.length:=r.length▸(iT.mp e).1;exact⟨ys[k],cS hk,r.aY k x _ e (cS hk)⟩
theorem cX.take(r:cX W S h xs ys)(k:O):cX W S h (xs.take k) (ys.take k):=by
 induction r generalizing k with
 | nil=>cases k<;>exact .nil
 | cons hx _ ih=>cases k with
  | zero=>exact .nil
  | succ k=>exact .cons hx (ih k)
theorem cX.drop(r:cX W S h xs ys)(k:O):cX W S h (xs.drop k) (ys.drop k):=by
 induction r generalizing k with
 | nil=>cases k<;>exact .nil
 | cons hx hs ih=>cases k with
  | zero=>exact .cons hx hs
  | succ k=>exact ih k
theorem cX.set(hv:cB W S h x y)(r:cX W S h xs ys)(k:O):cX W S h (xs.set k x) (ys.set k y):=by
 induction r generalizing k with
 | nil=>cases k<;>exact .nil
 | cons hx hs ih=>cases k with
  | zero=>exact .cons hv hs
  | succ k=>exact .cons hx (ih k)
theorem cX.replicate(hv:cB W S h x y):∀n,cX W S h (kA n x) (kA n y):=λn=>by
 induction n with
 | zero=>exact .nil
 | succ n ih=>exact .cons hv ih
def lU(o:gQ):Prop:=(o.cls= .type "tuple"/\∃xs n,o.data= .seq xs n)\/(o.cls= .type "range"/\∃vs,o.data= .fields vs)
def TP(h h':bS):Prop:=∀a o,h.get? a=Z o->lU o->h'.get? a=Z o
theorem cB.cV(hm:∀(i:O) p,S[i]?=Z p->μ'[i]?=Z p)(ht:TP h h')(r:cB W S h x y):cB W μ' h' x y:=by
 induction r with
 | none=>exact .none
 | bool b=>exact .bool b
 | int i t=>exact .int i t
 | str s t=>exact .str s t
 | aM hz ho hl _ ih=>
  obtain⟨n,ho⟩:=ho;exact .aM hz ⟨n,ht _ _ ho (.inl ⟨rfl,_,n,rfl⟩)⟩ hl ih
 | ref hp=>exact .ref (hm _ _ hp)
 | g hg=>exact .g hg
 | gG hb hr=>
  obtain⟨t,aN,v,hr⟩:=hr;exact .gG hb ⟨t,aN,v,ht _ _ hr (.inr ⟨rfl,_,rfl⟩)⟩
theorem cX.cV(hm:∀(i:O) p,S[i]?=Z p->μ'[i]?=Z p)(ht:TP h h')(r:cX W S h xs ys):cX W μ' h' xs ys:=by
 induction r with
 | nil=>exact .nil
 | cons hx _ ih=>exact .cons (hx.cV hm ht) ih
def v8(W:Wd)(S:Mp)(h:bS)(x:V)(y:aJ):Prop:=match x with
 | .none=>y= .none
 | .bool b=>y= .bool b
 | .int i=>∃t,y= .int i t
 | .str s=>∃t,y= .str (bR s) t
 | .aM xs=>ED (λa items=>y= .ref a) (λa items=>xs.length<=aF) (λa items=>BW h a items) (λa items=>cX W S h xs items.toList)
 | .ref i=>fQ (λp=>y= .ref p.1) (λp=>S[i]?=Z p)
 | .g n=>W.lX n=Z y
 | .gG lo hi=>rA (λa=>y= .ref a) (λa=>(jR lo&&jR hi)=u) (λa=>Wc h a lo hi)
theorem cB.cN(r:cB W S h x y):v8 W S h x y:=by
 cases r with
 | none=>exact rfl
 | bool=>exact rfl
 | int=>exact⟨_,rfl⟩
 | str=>exact⟨_,rfl⟩
 | aM hz ht hl hr=>exact⟨_,_,rfl,hz,ht,.of hl λi x y e e'=>hr i x y e (by rw[<-Dl];exact e')⟩
 | ref hp=>exact⟨_,rfl,hp⟩
 | g hg=>exact hg
 | gG hb hr=>exact⟨_,rfl,hb,hr⟩
def u8(W:Wd)(S:Mp)(h:bS)(xs:Y V)(ys:Y aJ):Prop:=match xs with
 | []=>ys=[]
 | x::xs=>yY (λy yF=>ys=y::yF) (λy yF=>cB W S h x y) (λy yF=>cX W S h xs yF)
theorem cX.cN(r:cX W S h xs ys):u8 W S h xs ys:=by
 cases r with
 | nil=>exact rfl
 | cons hx hs=>exact⟨_,_,rfl,hx,hs⟩
end
def Cj(W:Wd)(S:Mp)(h:bS)(x:aG V)(y:aG aJ):Prop:=match x with
 | some x=>bZ y (cB W S h x)
 | none=>y=aB
theorem Cj.cV(hm:∀(i:O) p,S[i]?=Z p->μ'[i]?=Z p)(ht:TP h h'){x:aG V}{y:aG aJ}(r:Cj W S h x y):Cj W μ' h' x y:=by
 cases x with
 | none=>exact r
 | some x=>cases y with
  | none=>exact r
  | some y=>exact cB.cV hm ht r
def FR(W:Wd)(S:Mp)(h:bS)(fs:Y (O×V))(m:aU->aG aJ):Prop:=(∀a nm,W.an a=Z nm->Cj W S h (lW fs a) (m nm))/\∀y,m y≠aB->∃a,W.an a=Z y
theorem FR.cV(hm:∀(i:O) p,S[i]?=Z p->μ'[i]?=Z p)(ht:TP h h'){fs:Y (O×V)}{m:aU->aG aJ}(r:FR W S h fs m):FR W μ' h' fs m:=⟨λa nm e=>(r.1 a nm e).cV hm ht,r.2⟩
class inductive iV (W:Wd) (S:Mp) (h:bS):Y (J×V)->Y (J×aJ)->Prop where
 | nil:iV W S h [] []
 | cons{k:J}{x:V}{y:aJ}{xs:Y (J×V)}{ys:Y (J×aJ)}(hx:cB W S h x y)(hs:iV W S h xs ys):iV W S h ((k,x)::xs) ((k,y)::ys)
theorem iV.cV(hm:∀(i:O) p,S[i]?=Z p->μ'[i]?=Z p)(ht:TP h h'){xs:Y (J×V)}{ys:Y (J×aJ)}(r:iV W S h xs ys):iV W μ' h' xs ys:=by
 induction r with
 | nil=>exact .nil
 | cons hx _ ih=>exact .cons (hx.cV hm ht) ih
inductive nR(W:Wd)(S:Mp)(h:bS):bY->bC×aG bC->Prop where
 | list{xs:Y V}{a:bC}{items:gN aJ}(hz:xs.length<=aF)(hl:oH h a items)(hr:cX W S h xs items.toList):nR W S h (.list xs) (a,aB)
 | dict{es:Y (J×V)}{ep:aG O}{a:bC}{bX:Y (J×aJ)}{n:O}(he:∀k,ep=Z k->n=k)(hd:h.DictAt (nF W.prog W.w) a bX n)(hr:iV W S h es bX):nR W S h (.dict es ep) (a,aB)
 | inst{c:O}{C:bC}{fs:Y (O×V)}{m:aU->aG aJ}{a d:bC}{o:gQ}(hc:W.lX c=Z (.ref C))(ho:h.get? a=Z o)(zL:o.cls= .ref C)
   (hn:∀k,o.data ≠ .cls k) (gF:d≠a) (hd:o.dict=Z d) (hs:h.Ns1 d m) (hr:FR W S h fs m):nR W S h (.inst c fs) (a,Z d)
def u5(W:Wd)(S:Mp)(h:bS)(o:bY)(p:bC×aG bC):Prop:=match o with
 | .list xs=>ED (λa items=>p=(a,aB)) (λa items=>xs.length<=aF) (λa items=>oH h a items) (λa items=>cX W S h xs items.toList)
 | .dict es ep=>JY (λa bX n=>p=(a,aB)) (λa bX n=>∀k,ep=Z k->n=k) (λa bX n=>h.DictAt (nF W.prog W.w) a bX n) (λa bX n=>iV W S h es bX)
 | .inst c fs=>Wp (λC m a d o=>p=(a,Z d)) (λC m a d o=>W.lX c=Z (.ref C)) (λC m a d o=>h.get? a=Z o) (λC m a d o=>o.cls= .ref C) (λC m a d o=>∀k,o.data ≠ .cls k) (λC m a d o=>d≠a) (λC m a d o=>o.dict=Z d) (λC m a d o=>h.Ns1 d m) (λC m a d o=>FR W S h fs m)
theorem nR.cN{o:bY}(r:nR W S h o p):u5 W S h o p:=by
 cases r with
 | list hz hl hr=>exact⟨_,_,rfl,hz,hl,hr⟩
 | dict he hd hr=>exact⟨_,_,_,rfl,he,hd,hr⟩
 | inst hc ho zL hn gF hd hs hr=>exact⟨_,_,_,_,_,rfl,hc,ho,zL,hn,gF,hd,hs,hr⟩
structure St(W:Wd)(S:Mp)(H:Hp)(h:bS):Prop where
 len:S.length=H.length
 iH:∀b o,W.h0.get? b=Z o->h.get? b=Z o
 obj:∀(i:O) o p,H[i]?=Z o->S[i]?=Z p->nR W S h o p
 fresh:∀a,gD S a->W.h0.get? a=aB
 apart:∀(i j:O) p q a,S[i]?=Z p->S[j]?=Z q->a∈lS p->a∈lS q->i=j
 kind:∀a o,gD S a->h.get? a=Z o->¬ lU o
theorem gD.CC{i:O}{a:bC}(hp:S[i]?=Z p)(ha:a∈lS p):gD S a:=⟨p,oF hp,ha⟩
theorem gD.get{a:bC}(h:gD S a):AV (λ(i:O) (p:bC×aG bC)=>S[i]?=Z p) (λ(i:O) (p:bC×aG bC)=>a∈lS p):=by obtain⟨p,hp,ha⟩:=h;obtain⟨i,hi⟩:=I4 hp;exact⟨i,p,hi,ha⟩
theorem gD.append{l:Mp}{a:bC}(h:gD S a):gD (S++l) a:=by obtain⟨p,hp,ha⟩:=h;exact⟨p,Vd _ hp,ha⟩
theorem uT{a b:bC}(h:a∈lS (b,aB)):a=b:=iU.mp h
theorem Ni{a b d:bC}(h:a∈lS (b,Z d)):a=b\/a=d:=(oE.mp h).imp id iU.mp
theorem CF(p:bC×aG bC):p.1∈lS p:=by simp [lS]
theorem jg{a d:bC}: d∈lS (a,Z d):=by simp [lS]
theorem nR.cV{o:bY}(hm:∀(i:O) p,S[i]?=Z p->μ'[i]?=Z p)(ht:TP h h')
  (hk:∀a∈lS p,∀ob,h.get? a=Z ob->h'.get? a=Z ob) (hr:nR W S h o p):nR W μ' h' o p:=by
 cases hr with
 | list hz hl hr=>obtain⟨n,ho⟩:=hl;exact .list hz ⟨n,hk _ (CF _) _ ho⟩ (hr.cV hm ht)
 | dict he hd hr=>obtain⟨ob,es,ho,r⟩:=hd;exact .dict he ⟨ob,es,hk _ (CF _) _ ho,r⟩ (hr.cV hm ht)
 | inst hc ho zL hn gF hd hs hr=>
  obtain⟨ob,es,ep,e1,r⟩:=hs;exact .inst hc (hk _ (CF _) _ ho) zL hn gF hd ⟨ob,es,ep,hk _ jg _ e1,r⟩ (hr.cV hm ht)
structure Mv(W:Wd)(eD:bC->Prop)(S:Mp)(h:bS)(μ':Mp)(H':Hp)(h':bS):Prop where
 st:St W μ' H' h'
 ext:∃l,μ'=S++l
 new:∀a o,gD μ' a->h.get? a=Z o->gD S a
 has:∀a o,h.get? a=Z o->∃o',h'.get? a=Z o'
 keep:∀b o,¬ gD S b->¬ eD b->h.get? b=Z o->h'.get? b=Z o
abbrev X0:bC->Prop:=λ_=>False
theorem Mv.refl(s:St W S H h):Mv W eD S h S H h:=⟨s,⟨[],by simp⟩,λ_ _ x _=>x,λ_ o e=>⟨o,e⟩,λ_ _ _ _ x=>x⟩
theorem Mv.trans{Ot:Mp}{Wa:Hp}{Ai:bS}(x:Mv W eD S h μ' H' h')(y:Mv W eD μ' h' Ot Wa Ai):Mv W eD S h Ot Wa Ai:=by
 obtain⟨l,rfl⟩:=x.ext;obtain⟨l',rfl⟩:=y.ext;refine⟨y.st,⟨l++l',by simp⟩,λa o ha e=>?_,λa o e=>?_,λb o hb hx e=>?_⟩
 ·obtain⟨o',e'⟩:=x.has a o e
  exact x.new a o (y.new a o' ha e') e
 ·obtain⟨o',e'⟩:=x.has a o e
  exact y.has a o' e'
 ·exact y.keep b o (λq=>hb (x.new b o q e)) hx (x.keep b o hb hx e)
theorem Mv.LH{Co:bC->Prop}(x:Mv W eD S h μ' H' h')(hx:∀a o,h.get? a=Z o->eD a->Co a):Mv W Co S h μ' H' h':=
 ⟨x.st,x.ext,x.new,x.has,λb o hb hy e=>x.keep b o hb (λq=>hy (hx b o e q)) e⟩
theorem Mv.mp(x:Mv W eD S h μ' H' h'):∀(i:O) p,S[i]?=Z p->μ'[i]?=Z p:=by obtain⟨l,rfl⟩:=x.ext;intro i p e;rw[gO (iT.mp e).1];exact e
theorem Mv.Et(s:St W S H h)(hX:∀a o,eD a->h.get? a=Z o->¬ lU o)(x:Mv W eD S h μ' H' h'):TP h h':=λa o ho hc=>
 x.keep a o (λq=>s.kind a o q ho hc) (λq=>hX a o q ho hc) ho
theorem Mv.tp(s:St W S H h)(x:Mv W X0 S h μ' H' h'):TP h h':=x.Et s (λ_ _ q=>q.elim)
theorem cB.mv{v:V}(s:St W S H h)(x:Mv W X0 S h μ' H' h')(r:cB W S h v y):cB W μ' h' v y:=r.cV x.mp (x.tp s)
theorem cX.mv{v:Y V}{y:Y aJ}(s:St W S H h)(x:Mv W X0 S h μ' H' h')(r:cX W S h v y):cX W μ' h' v y:=r.cV x.mp (x.tp s)
theorem nR.has{o:bY}(r:nR W S h o p){a:bC}(hm:a∈lS p):∃ob,h.get? a=Z ob:=by
 cases r with
 | list hz hl hr=>obtain⟨n,ho⟩:=hl;rw[uT hm];exact⟨_,ho⟩
 | dict he hd hr=>obtain⟨ob,es,ho,r⟩:=hd;rw[uT hm];exact⟨_,ho⟩
 | inst hc ho zL hn gF hd hs hr=>
  obtain⟨ob,es,ep,e1,r⟩:=hs;rcases Ni hm with h|h<;>rw[h]
  exact⟨_,ho⟩;exact⟨_,e1⟩
theorem St.has(s:St W S H h){a:bC}(ha:gD S a):∃o,h.get? a=Z o:=by obtain⟨i,p,hp,hm⟩:=ha.get;have hi:i<H.length:=s.len▸(iT.mp hp).1;exact (s.obj i _ p (cS hi) hp).has hm
theorem Mv.of_keep(s:St W S H h)(hk:∀b o,h.get? b=Z o->h'.get? b=Z o):Mv W X0 S h S H h':=by
 refine⟨⟨s.len,λb o e=>hk b o (s.iH b o e),λi o p ho hp=>(s.obj i o p ho hp).cV (λ_ _ e=>e) (λa o e _=>hk a o e) (λa _ ob e=>hk a ob e),s.fresh,s.apart,λa o ha e=>?_⟩,
  ⟨[],by simp⟩,λ_ _ x _=>x,λa o e=>⟨o,hk a o e⟩,λb o _ _ e=>hk b o e⟩
 obtain⟨o',rH⟩:=s.has ha;have:=hk a o' rH;rw[e]at this;cases this;exact s.kind a o ha rH
theorem Mv.TX{i:O}{o':bY}(s:St W S H h)(hp:S[i]?=Z p)
  (hk:∀b o,b∉lS p->h.get? b=Z o->h'.get? b=Z o) (hr:TP h h'->nR W S h' o' p)
  (C6:∀a∈lS p,∀o,h'.get? a=Z o->¬ lU o):Mv W X0 S h S (H.set i o') h':=by
 have Ry:∀a,a∈lS p->gD S a:=λa ha=>.CC hp ha;have tp:TP h h':=λa o ho hc=>hk a o (λq=>by
  exact s.kind a o (Ry a q) ho hc) ho
 refine⟨⟨by rw[mI];exact s.len,λb o e=>hk b o (λq=>?_) (s.iH b o e),λj o q ho hq=>?_,s.fresh,s.apart,λa o ha e=>?_⟩,⟨[],by simp⟩,λ_ _ x _=>x,λa o e=>?_,λb o hb _ e=>hk b o (λq=>hb (Ry b q)) e⟩;rw[s.fresh b (Ry b q)]at e;cases e
 ·by_cases qK:i=j
  ·subst qK
   rw[hp]at hq;cases hq;rw[VX]at ho;have:H[i]?.isSome:=by rw[cS (s.len▸(iT.mp hp).1)];rfl
   obtain⟨x,hx⟩:=rV.mp this;rw[hx]at ho;cases ho;exact hr tp
  ·rw[kL qK]at ho
   refine (s.obj j o q ho hq).cV (λ_ _ e=>e) tp (λa ha ob e=>hk a ob (λz=>qK (s.apart i j p q a hp hq z ha)) e)
 ·by_cases hm:a∈lS p
  ·exact C6 a hm o e
  ·obtain⟨o',rH⟩:=s.has ha
   have:=hk a o' hm rH;rw[e]at this;cases this;exact s.kind a o ha rH
 ·by_cases hm:a∈lS p
  exact (hr tp).has hm;exact⟨o,hk a o hm e⟩
theorem St.sQ(st:St W S H h){a:bC}(hn:h.get? a=aB): ¬ gD S a/\W.h0.get? a=aB:=by
 refine⟨λq=>?_,?_⟩
 ·obtain⟨o,e⟩:=st.has q
  exact cI (hn.symm.trans e)
 ·cases e:W.h0.get? a with
  | none=>rfl
  | some o=>exact cI (hn.symm.trans (st.iH a o e))
theorem Q3{q:bC×aG bC}{i:O}(e:(S++[p])[i]?=Z q):S[i]?=Z q\/(i=S.length/\p=q):=by
 by_cases hi:i<S.length;rw[gO hi]at e;exact .inl e
 ·rw[oP (sY hi)]at e
  by_cases z:i-S.length=0;rw[z]at e;exact .inr ⟨BM (Nat.sub_eq_zero_iff_le.mp z) (sY hi),aT e⟩
  ·obtain⟨n,hn⟩:=Vi z
   rw[hn]at e;exact cI e
theorem KY(i:O)(q:bC×aG bC)(e:S[i]?=Z q):(S++[p])[i]?=Z q:=by rw[gO (iT.mp e).1];exact e
theorem N2{a:bC}(h:gD (S++[p]) a):gD S a\/a∈lS p:=by
 obtain⟨q,hq,ha⟩:=h;rcases oQ.mp hq with hq|hq
 exact .inl ⟨q,hq,ha⟩;exact .inr (iU.mp hq▸ha)
theorem Mv.P0{H H1:Hp}{o':bY}(st:St W S H h)(m:Mv W eD S h μ1 H1 h1)(hf:∀a∈lS p,h.get? a=aB/\¬ gD μ1 a)
  (hr:nR W (μ1++[p]) h1 o' p) (C6:∀a∈lS p,∀o,h1.get? a=Z o->¬ lU o):Mv W eD S h (μ1++[p]) (H1++[o']) h1:=by
 obtain⟨l,hl⟩:=m.ext;refine⟨⟨by rw[bA,bA,m.st.len];rfl,m.st.iH,λi o q ho hq=>?_,λa ha=>?_,λi j q r a hq xN ha hb=>?_,λa o ha e=>?_⟩,⟨l++[p],by rw[hl,fB]⟩,λa o ha e=>?_,m.has,m.keep⟩
 ·rcases Q3 hq with e|⟨e1,e2⟩
  ·rw[gO (m.st.len▸(iT.mp e).1)]at ho
   exact (m.st.obj i o q ho e).cV KY (λ_ _ e _=>e) (λ_ _ _ e=>e)
  ·rw[e1,m.st.len,oP (cE _),qB]at ho
   rw[<-e2,<-aT ho];exact hr
 ·exact (N2 ha).elim (m.st.fresh a) λh1=>(st.sQ (hf a h1).1).2
 ·rcases Q3 hq with e|⟨e1,e2⟩<;>rcases Q3 xN with e'|⟨QZ,e2'⟩
  ·exact m.st.apart i j q r a e e' ha hb
  ·rw[<-e2']at hb
   exact ((hf a hb).2 (.CC e ha)).elim
  ·rw[<-e2]at ha
   exact ((hf a ha).2 (.CC e' hb)).elim
  ·rw[e1,QZ]
 exact (N2 ha).elim (λh1=>m.st.kind a o h1 e) λh1=>C6 a h1 o e;exact (N2 ha).elim (λh1=>m.new a o h1 e) λh1=>cI ((hf a h1).1.symm.trans e)
theorem Mv.Nr{o':bY}(s:St W S H h)
  (hk:∀b o,h.get? b=Z o->h'.get? b=Z o) (hf:∀a∈lS p,h.get? a=aB)
  (hr:nR W (S++[p]) h' o' p) (C6:∀a∈lS p,∀o,h'.get? a=Z o->¬ lU o):Mv W X0 S h (S++[p]) (H++[o']) h':=
 Mv.P0 s (Mv.of_keep s hk) (λa ha=>⟨hf a ha,(s.sQ (hf a ha)).1⟩) hr C6
theorem Jv{l:Y α}{x:α}: (l++[x])[l.length]?=Z x:=by rw[oP (cE _),qB];rfl
theorem Ke{o:gQ}(h:o.cls= .type "list"): ¬ lU o:=λz=>by rcases z with⟨a,_⟩|⟨a,_⟩<;>rw[h]at a<;>exact absurd a (by decide)
theorem GS{o:gQ}{es:gN E3}{n:O}(h:o.data= .dict es n): ¬ lU o:=λz=>by
 rcases z with⟨_,a⟩|⟨_,a⟩
 obtain⟨_,_,a⟩:=a;rw[h]at a;cases a;obtain⟨_,a⟩:=a;rw[h]at a;cases a
theorem gp{o:gQ}(h:o.cls= .ref C): ¬ lU o:=λz=>by rcases z with⟨a,_⟩|⟨a,_⟩<;>rw[h]at a<;>cases a
theorem Mv.newList{n:O}(s:St W S H h)(hz:xs.length<=aF)(hr:cX W S h xs items.toList):
  Mv W X0 S h (S++[(h.objs.size,aB)]) (H++[.list xs]) (h.push {cls:=.type "list",data:=.seq items n})/\
   cB W (S++[(h.objs.size,aB)]) (h.push {cls:=.type "list",data:=.seq items n}) (.ref H.length) (.ref h.objs.size):=by
 have g:(h.push {cls:=.type "list",data:=.seq items n}).get? h.objs.size=Z {cls:=.type "list",data:=.seq items n}:=Do _ rfl;refine⟨Mv.Nr s (λb o e=>sV _ e) (λa ha=>?_) (.list hz ⟨n,g⟩ (hr.cV KY λa o e _=>sV _ e)) (λa ha o e=>?_),.ref (p:=(h.objs.size,aB)) ?_⟩;rw[uT ha];exact AN (cE _);rw[uT ha,g]at e;exact aT e▸Ke rfl;rw[<-s.len];exact Jv
theorem Mv.gd{a:bC}(s:St W S H h)(hz:xs.length<=aF)(hk:∀b o,h.get? b=Z o->h'.get? b=Z o)(hf:h.get? a=aB)(hl:oH h' a items)
  (hr:cX W S h xs items.toList):Mv W X0 S h (S++[(a,aB)]) (H++[.list xs]) h'/\cB W (S++[(a,aB)]) h' (.ref H.length) (.ref a):=by
 obtain⟨n,g⟩:=hl;refine⟨Mv.Nr s hk (λb hb=>?_) (.list hz ⟨n,g⟩ (hr.cV KY λb o e _=>hk b o e)) (λb hb o e=>?_),.ref (p:=(a,aB)) ?_⟩;rw[uT hb];exact hf;rw[uT hb,g]at e;exact aT e▸Ke rfl;rw[<-s.len];exact Jv
theorem Mv.push(s:St W S H h)(o:gQ):Mv W X0 S h S H (h.push o):=
 .of_keep s λ_ _ e=>sV _ e
theorem Mv.newTuple{n:O}(s:St W S H h)(hz:xs.length<=aF)(hr:cX W S h xs items.toList):
  Mv W X0 S h S H (h.push {cls:=.type "tuple",data:=.seq items n})/\cB W S (h.push {cls:=.type "tuple",data:=.seq items n}) (.aM xs) (.ref h.objs.size):=
 ⟨.push s _,.Ip hz ⟨n,Do _ rfl⟩ (hr.cV (λ_ _ e=>e) λ_ _ e _=>sV _ e)⟩
theorem St.rL(s:St W S H h){i:O}{xs:Y V}{y:aJ}(e:H[i]?=Z (.list xs))(r:cB W S h (.ref i) y):
  Pv (λa items=>y= .ref a) (λa items=>S[i]?=Z (a,aB)) (λa items=>oH h a items) (λa items=>cX W S h xs items.toList) (λa items=>items.size<=aF):=by
 obtain⟨p,hy,hp⟩:=r.cN;obtain⟨a,items,e1,hz,hl,hr⟩:=(s.obj i _ _ e hp).cN;rw[e1]at hp hy;exact⟨a,items,hy,hp,hl,hr,by rw[hr.length]at hz;exact hz⟩
noncomputable abbrev Mo(W:Wd):FA:=model W.prog W.w
def yX(W:Wd)(s:aV)(S:Mp)(r:V×Hp)(Q:aJ->aV->Prop):Prop:=
 ∀μ' h' tk v,Mv W X0 S s.heap μ' r.2 h'->cB W μ' h' r.1 v->Q v {s with heap:=h',toks:=tk}
def Cg(W:Wd)(A:dO)(s:aV)(S:Mp)(t:rW aJ)(r:V×Hp):Prop:=∀Q E,yX W s S r Q->cG (Mo W) A t Q E s
theorem yX.fC{v:V}{Q:aJ->aV->Prop}(r:yX W s S (v,H) Q)(st:St W S H s.heap)(hv:cB W S s.heap v y):Q y {s with toks:=tk}:=
 r S s.heap tk y (.refl st) hv
theorem yX.vT{v:V}{Q:aJ->aV->Prop}(r:yX W s S (v,H) Q)(st:St W S H s.heap)(hv:cB W S s.heap v y):Q y s:=
 r.fC (tk:=s.toks) st hv
theorem W5{b:J}(h:nn a b=u):VF a b=HL a b:=by simp only[nn,LM,WE]at h;unfold VF HL;simp [h.1,h.2]
theorem W6{b:J}(h:nn a b=u):we a b=IK a b:=by
 simp only[nn,LM,WE]at h;have ha: ¬ (0<=BI a):=by unfold BI;lia
 have hb: ¬ (0<=BI b):=by unfold BI;lia
 have na:BI (BI a)=a:=by unfold BI;lia
 have nb:BI (BI b)=b:=by unfold BI;lia
 unfold we VF IK;simp only[ha,hb,decide_false,na,nb,h.1,h.2,and_self,G7];unfold BI;lia
theorem cy'{b:J}(h:nn a b=u):wg a b=CP a b:=by unfold wg CP;rw[W6 h,W5 h]
theorem aO{a:aC}(h:(a&&b)=u):a=u/\b=u:=(LM a b).mp h
theorem Ih: jR i=u↔i.natAbs<2^60:=by simp [jR]
theorem cz'(h:jR i=u):wb i<=64:=by
 rw[Ih]at h;unfold wb;split;lia
 ·rename_i hz
  have hn:i.natAbs≠0:=λq=>by simp at hz;exact hz (Int.natAbs_eq_zero.mp q)
  have:i.natAbs.log2<60:=(zd hn).mpr h;lia
theorem cr'{op:wR}{b:J}{t aN:sZ}(st:St W S H s.heap)(e:Ff op a b=Z c):Cg W A s S (PV op (.int a t) (.int b aN)) (.int c,H):=by
 intro Q E r;have done:∀{d:J},Z d=Z c->Q (.int d s.toks) {s with toks:=s.toks+1}:=λhd=>by cases hd;exact r.fC st (.int _ _)
 clear r;cases op with
 | Add=>exact PySem.P.add_int (done e)
 | Sub=>exact PySem.P.sub_int (done e)
 | Mult=>
  obtain⟨h,e⟩:=iY e;exact PySem.P.mul_int (done e) (.of_left (cz' (aO h).1))
 | FloorDiv=>
  obtain⟨h,e⟩:=iY e;have h0:b≠0:=Dy.mp (aO h).1;exact qv' h0 (done e) (.inl (PyProof.noPylong_of_log2 (bT ((zd (by simpa using h0)).mpr (Ih.mp (aO h).2)) (by decide))))
 | Mod=>
  obtain⟨h,e⟩:=iY e;exact qx' (Dy.mp h) (done e)
 | Pow=>
  obtain⟨h,e⟩:=iY e;exact qz' (fY (aO (aO h).1).2) (fY (aO h).2) (bT (Ih.mp (aO (aO h).1).1) (by decide)) (done e)
 | RShift=>
  obtain⟨h,e⟩:=iY e;exact qA' (fY h) (done e)
 | LShift=>
  obtain⟨h,e⟩:=iY e;exact qw' (fY (aO (aO h).1).2) (fY (aO h).2) (bT (Ih.mp (aO (aO h).1).1) (by decide)) (done e)
 | BitXor=>
  obtain⟨h,e⟩:=iY e;exact qB' (done (cy' h▸e))
 | BitAnd=>
  obtain⟨h,e⟩:=iY e;exact qu' (done (W5 h▸e))
 | BitOr=>
  obtain⟨h,e⟩:=iY e;exact qy' (done (W6 h▸e))
 | _=>exact cI e
theorem x6{E:aJ->aV->Prop}{l b:bC}{Av:gN aJ}{Q:aJ->aV->Prop}(hl:oH s.heap l items)(hb:oH s.heap b Av)
  (h:Q (.ref s.heap.objs.size) {s with heap:=s.heap.push {cls:=.type "list",data:=.seq (items++Av)}}) (eC:items.size+Av.size<=AR):
  cG (Mo W) A (PV .Add (.ref l) (.ref b)) Q E s:=by
 obtain⟨n,ho⟩:=hl;obtain⟨n2,EX⟩:=hb;exact concat_meets ⟨_,ho,rfl⟩ ⟨_,EX,rfl⟩ noFill_list_add seq_list_add PySem.F.slot_list_add PySem.F.entry_list_add (PySem.F.args_list_add_2 _ _) (list_addW l b items Av n n2 aB aB #[] #[] eC) ⟨ho,EX,h⟩
theorem lg(y:aJ):∀(k:O) (acc:gN aJ),(VV (λx1 x2=>x1++x2) acc (kA k #[y])).toList=acc.toList++kA k y
 | 0,acc=>by simp
 | k+1,acc=>by
  rw[Ve,List.foldl_cons,lg y k];simp [Ve]
theorem iI'{E:aJ->aV->Prop}{l:bC}{x:J}{aN:sZ}{Q:aJ->aV->Prop}(hl:oH s.heap l items)
  (Ri: -(2^63:J)<=x) (hhi:x<2^63) (eC:items.size*x.toNat<=2^24)
  (h:Q (.ref s.heap.objs.size) {s with heap:=s.heap.push {cls:=.type "list",data:=.seq (VV (λx1 x2=>x1++x2) #[] (kA (if items.isEmpty=u then 0 else x.toNat) items))}}):
  cG (Mo W) A (PV .Mult (.ref l) (.int x aN)) Q E s:=by
 obtain⟨k,hl⟩:=hl;exact wpAny_binaryOp_repeat_ref (T:="list") (U:="int") (by decide) ⟨_,hl,rfl⟩ (λs'=>typeIs_int s' x aN) noFill_list_mul F.fills_int_mul wt repeat_list F.slot_int_index.lookup
  (FI wt (typeIs_int s x aN) F.entry_int_rmul (F.args_int_rmul_2 _ _) (int___rmul___int_list x aN l items k)
   ⟨hl,rfl,⟨_,hl,rfl⟩,FI F.slot_list_mul ⟨_,hl,rfl⟩ F.entry_list_mul (F.args_list_mul_2 _ _)
    (AutoListH.list___mul___list_int_3 l items k x aN (by simp [VB];exact⟨Ri,hhi⟩) (by lia) (by simp [VD,AR];lia))
    ⟨hl,h⟩⟩)
theorem jz'{x:V}(h:iw xs=Z x):xs=[x]:=by
 cases xs with
 | nil=>exact cI h
 | cons y ys=>cases ys with
  | nil=>exact aW (λx=>[x]) (aT h)
  | cons=>exact cI h
theorem qb:AR=16777216:=rfl
theorem KX:aF=16000000:=rfl
theorem vA{n:O}(h:n<=16000000):n<=AR:=aL h (by decide)
theorem ro{n:O}(h:n<=16000000):(n:J)<2^63:=qV (fV.mpr h) (by decide)
theorem ct'{op:wR}{x y:V}{v:aJ}{r:V×Hp}(st:St W S H s.heap)(hx:cB W S s.heap x v)(hy:cB W S s.heap y w)(e:Ba op x y H=Z r):
  Cg W A s S (PV op v w) r:=by
 cases hq:rR x with
 | none=>
  unfold Ba at e;rw[hq]at e;obtain⟨a,ha,e⟩:=dD e;obtain⟨b,hb,e⟩:=dD e;obtain⟨c,hc,e⟩:=dD e;rw[mW ha]at hx;rw[mW hb]at hy;obtain⟨t,rfl⟩:=hx.cN;obtain⟨aN,rfl⟩:=hy.cN;cases e;exact cr' st hc
 | some a=>
  unfold Ba at e;rw[hq]at e;obtain⟨xs,hA,e⟩:=dD e;rw[yD hq]at hx;obtain⟨a,ia,rfl,hp,hl,hr,_⟩:=st.rL (wG hA) hx;clear hA hx hq;cases op with
  | Add=>
   obtain⟨b,hb,e⟩:=dD e;obtain⟨ys,hB,e⟩:=dD e;obtain⟨eC,e⟩:=iY e;rw[yD hb]at hy;obtain⟨b,ib,rfl,lQ,nJ,kP,_⟩:=st.rL (wG hB) hy;cases e;intro Q E k;have eC:=fY eC;refine x6 hl nJ ?_ (vA (hr.size▸kP.size▸eC));have m:=Mv.newList (n:=0) (items:=ia++ib) st (by rw[bA];exact eC) (by rw[vv];exact hr.append kP);exact k _ _ s.toks _ m.1 m.2
  | Mult=>
   obtain⟨n,hn,e⟩:=dD e;obtain⟨x,hx,e⟩:=dD e;obtain⟨eC,e⟩:=iY e;rw[mW hn]at hy;obtain⟨t,rfl⟩:=hy.cN;rw[jz' hx]at hr;obtain⟨y,ys,e1,hv,hs⟩:=hr.cN;rw[show ys=[] from hs.cN]at e1;have hia:ia= #[y]:=vq e1;cases e;intro Q E k;have h1:=fY (aO eC).1;have h2:n<=16000000:=fY (aO eC).2;rw[hia]at hl;refine iI' hl (by lia) (by lia) (by simp;lia) ?_;have m:=Mv.newList (n:=0) (items:=VV (λx1 x2=>x1++x2) #[] (kA (if (#[y]:gN aJ).isEmpty=u then 0 else n.toNat) #[y])) st (by rw[BL,KX];lia)
    (xs:=kA n.toNat x) (by rw[lg];exact cX.replicate hv n.toNat)
   exact k _ _ s.toks _ m.1 m.2
  | _=>exact cI e
theorem BW.fun{a:bC}{i j:gN aJ}(x:BW h a i)(y:BW h a j):i=j:=by obtain⟨n,x⟩:=x;obtain⟨m,y⟩:=y;rw[x]at y;cases y;rfl
theorem oH.fun{a:bC}{i j:gN aJ}(x:oH h a i)(y:oH h a j):i=j:=by obtain⟨n,x⟩:=x;obtain⟨m,y⟩:=y;rw[x]at y;cases y;rfl
theorem toNat_map_inj:∀{l m:Y Char},l.map wm=m.map wm->l=m:=λ{l}=>by
 induction l with
 | nil=>exact λ{m} h=>(yl.mp h.symm).symm
 | cons a l ih=>
  intro m h;cases m with
  | nil=>exact absurd h (by simp)
  | cons b m=>
   have h:=Gw h;rw[Char.toNat_inj.mp h.1,ih h.2]
theorem iY'{a b:lA}(h:bR a=bR b):a=b:=by rw[Str.ofString_eq_byList]at h;unfold Str.ofStringByList at h;have:=aW (λs:aU=>s.cps.toList) h;simp only at this;exact String.toList_inj.mp (toNat_map_inj this)
theorem iX'(a b:lA):(bR a==bR b)=(a==b):=by rw[Ou,kB,kB];exact⟨iY',λh=>by rw[h]⟩
theorem EqAt.kz'{l b:bC}{k:aC}(hs:l=b->k=u)(h:RcAt A s (.ref l) (.ref b) k):EqAt A s (.ref l) (.ref b) k:=by by_cases e:l=b;subst e;rw[hs rfl];exact EqAt.same _;exact EqAt.of_refs e h
def Ex(xs ys:Y V)(n j:O):aC:=(bE xs[j]? λx=>bE ys[j]? λy=>pF x y n).getD aE
theorem qh'{x y:V}{n:O}: (Ex (x::xs) (y::ys) n∘FD)=Ex xs ys n:=rfl
structure VE(A:dO)(s:aV)(v w:aJ)(b:aC):Prop where
 rc:RcAt A s v w b
 ne:RcNeAt A s v w (!b)
 eq:EqAt A s v w b
 same:v=w->b=u
theorem qa'{y:V}{n:O}(e:pF .none y n=Z b):y= .none/\b=u:=by cases y<;>first|exact cI e|exact⟨rfl,(aT e).symm⟩
theorem pX'{a:aC}{y:V}{n:O}(e:pF (.bool a) y n=Z b):fQ (λc=>y= .bool c) (λc=>(a==c)=b):=by cases y<;>first|exact cI e|exact⟨_,rfl,aT e⟩
theorem pZ'{y:V}{n:O}(e:pF (.int a) y n=Z b):fQ (λc=>y= .int c) (λc=>(a==c)=b):=by cases y<;>first|exact cI e|exact⟨_,rfl,aT e⟩
theorem qd'{a:lA}{y:V}{n:O}(e:pF (.str a) y n=Z b):fQ (λc=>y= .str c) (λc=>(a==c)=b):=by cases y<;>first|exact cI e|exact⟨_,rfl,aT e⟩
theorem qf'{y:V}{n:O}(e:pF (.aM xs) y n=Z b):yY (λys m=>y= .aM ys) (λys m=>n=m+1) (λys m=>lE xs ys m=Z b):=by
 cases y<;>first|exact cI e|(cases n with
  | zero=>exact cI e
  | succ m=>exact⟨_,_,rfl,rfl,e⟩)
theorem Ux{x y:V}{n:O}{p:Prop}(hx:(∃a,x= .ref a)\/(∃a,x= .g a)\/ ∃a c,x= .gG a c)(e:pF x y n=Z b):p:=by rcases hx with⟨a,rfl⟩|⟨a,rfl⟩|⟨a,c,rfl⟩<;>cases y<;>exact cI e
theorem ut:∀{xs ys:Y V} {n:O} {b:aC},lE xs ys n=Z b->((fX (min xs.length ys.length)).all (Ex xs ys n)&&xs.length==ys.length)=b:=λ{xs}=>by
 induction xs with
 | nil=>exact λ{ys n b} e=>by cases ys<;>exact aT e
 | cons x xs ih=>
  intro ys n b e;cases ys with
  | nil=>exact aT e
  | cons y ys=>
   obtain⟨a,e1,e⟩:=dD e;obtain⟨c,e2,e⟩:=dD e;rw[<-aT e,<-ih e2,wP,wP,Nat.add_min_add_right,yt,List.all_cons,xt,qh',show Ex (x::xs) (y::ys) n 0=a from aW (Vp · aE) e1,show (xs.length+1==ys.length+1)=(xs.length==ys.length) from by simp,Bool.and_assoc]
theorem uu:∀{xs ys:Y V} {n:O} {b:aC},lE xs ys n=Z b->∀(j:O) x y,xs[j]?=Z x->ys[j]?=Z y->pF x y n=Z (Ex xs ys n j):=λ{xs}=>by
 induction xs with
 | nil=>exact λe j x y h=>cI h
 | cons x xs ih=>
  intro ys n b e j aN v h1 h2;cases ys with
  | nil=>exact cI h2
  | cons y ys=>
   obtain⟨a,e1,e⟩:=dD e;obtain⟨c,e2,e⟩:=dD e;cases j with
   | zero=>
    rw[<-aT h1,<-aT h2,show Ex (x::xs) (y::ys) n 0=a from aW (Vp · aE) e1];exact e1
   | succ j=>exact ih e2 j aN v h1 h2
theorem uq:∀{n:O} {x y:V} {v w:aJ} {b:aC} {A:dO},A.units+n<BQ->cB W S s.heap x v->cB W S s.heap y w->pF x y n=Z b->VE A s v w b:=λ{n}=>by
 induction n using Nat.strongRecOn with
 | ind n ih=>
  intro x y v w b A hu hx hy e;cases x with
  | none=>
   obtain⟨rfl,rfl⟩:=qa' e;rw[show v=_ from hx.cN,show w=_ from hy.cN];exact⟨RcAt.none_none,RcNeAt.none_none,EqAt.same _,λ_=>rfl⟩
  | bool a=>
   obtain⟨c,rfl,rfl⟩:=pX' e;rw[show v=_ from hx.cN,show w=_ from hy.cN];exact⟨RcAt.bool_bool _ _,RcNeAt.bool_bool _ _,EqAt.bool_bool _ _,λq=>kB.mpr (qE' q)⟩
  | int a=>
   obtain⟨c,rfl,rfl⟩:=pZ' e;obtain⟨t,rfl⟩:=hx.cN;obtain⟨t',rfl⟩:=hy.cN;exact⟨RcAt.int_int _ _ _ _,RcNeAt.int_int _ _ _ _,EqAt.int_int _ _ _ _,λq=>kB.mpr (Value.int.inj q).1⟩
  | str a=>
   obtain⟨c,rfl,rfl⟩:=qd' e;obtain⟨t,rfl⟩:=hx.cN;obtain⟨t',rfl⟩:=hy.cN;rw[<-iX'];exact⟨RcAt.str_str _ _ _ _,RcNeAt.str_str _ _ _ _,EqAt.str_str _ _ _ _,λq=>kB.mpr (Value.str.inj q).1⟩
  | aM xs=>
   obtain⟨ys,m,rfl,rfl,e⟩:=qf' e;obtain⟨a1,i1,rfl,lJ,SC,rI⟩:=hx.cN;obtain⟨a2,i2,rfl,mA,Hy,kP⟩:=hy.cN;have l1:xs.length=i1.size:=rI.length;have l2:ys.length=i2.size:=kP.length;have hz:i1.size<=16000000:=l1▸lJ;have fK:∀{A:dO},A.units+m<BQ->∀j (g1:j<i1.size) (g2:j<i2.size),VE A s i1[j] i2[j] (Ex xs ys m j):=λ{A} hu j g1 g2=>by
    have q1:=cS (l:=xs) (l1▸g1);have q2:=cS (l:=ys) (l2▸g2);refine ih m (iB m) hu (rI.aY j _ _ q1 ?_) (kP.aY j _ _ q2 ?_) (uu e j _ _ q1 q2);rw[Dl];exact Iw g1;rw[Dl];exact Iw g2
   have ha:=ut e;have Zw:Vv a1= .ref a2->b=u:=λq=>by
    rw[<-Cc q]at Hy;have q:=SC.fun Hy;rw[<-ha,l1,l2,<-q,Ce,LN,zm,yL];intro j hj;have hj:=Gz.mp hj;exact (fK (A:=A) (zg hu) j hj (q▸hj)).same (by simp [q])
   rw[l1,l2]at ha;have rc:RcAt A s (.ref a1) (.ref a2) b:=ha▸RcAt.tuples SC.is Hy.is (cM (bU _ _) hu) λj g1 g2=>(fK (A:=A.in1) (by show A.units+1+m<BQ;rw[hS];exact hu) j g1 g2).eq;exact⟨rc,ha▸RcNeAt.tuples SC.is Hy.is (cM (bU _ _) hu) λj g1 g2=>(fK (A:=A.in1) (by show A.units+1+m<BQ;rw[hS];exact hu) j g1 g2).eq,EqAt.kz' (λq=>Zw (q▸rfl)) rc,Zw⟩
  | ref a=>exact Ux (.inl ⟨_,rfl⟩) e
  | g a=>exact Ux (.inr (.inl ⟨_,rfl⟩)) e
  | gG a c=>exact Ux (.inr (.inr ⟨_,_,rfl⟩)) e
theorem Y6{x y:V}{v:aJ}(hu:A.units+21<BQ)(st:St W S H s.heap)(hx:cB W S s.heap x v)(hy:cB W S s.heap y w)
  (e:M2 H x y=Z b):RcAt A s v w b/\RcNeAt A s v w (!b):=by
 unfold M2 at e;cases hq:rR x with
 | none=>
  rw[hq]at e;have:=uq (A:=A) (n:=20) (zg hu) hx hy e;exact⟨this.rc,this.ne⟩
 | some i=>
  rw[hq]at e;obtain⟨j,hj,e⟩:=dD e;obtain⟨xs,hA,e⟩:=dD e;obtain⟨ys,hB,e⟩:=dD e;rw[yD hq]at hx;rw[yD hj]at hy;obtain⟨a,ia,rfl,_,hl,hr,lJ⟩:=st.rL (wG hA) hx;obtain⟨c,ic,rfl,_,nJ,kP,_⟩:=st.rL (wG hB) hy;clear hA hB hx hy hq hj;have l1:xs.length=ia.size:=hr.length;have l2:ys.length=ic.size:=kP.length;have lJ:ia.size<=16000000:=lJ;have h0:=cM (bU _ 21) hu;by_cases eC:xs.length=ys.length
  ·rw[aZ eC]at e
   have hz:ia.size=ic.size:=l1▸l2▸eC;have g:∀j (g1:j<ia.size) (g2:j<ic.size),EqAt A.in1 s ia[j] ic[j] (Ex xs ys 20 j):=λj g1 g2=>by
    have q1:=cS (l:=xs) (l1▸g1);have q2:=cS (l:=ys) (l2▸g2);refine (uq (A:=A.in1) (n:=20) (by exact hu) (hr.aY j _ _ q1 ?_) (kP.aY j _ _ q2 ?_) (uu e j _ _ q1 q2)).eq;rw[Dl];exact Iw g1;rw[Dl];exact Iw g2
   have ha:=ut e;rw[<-eC,Ce,LN,zm,l1]at ha;rw[<-ha];exact⟨RcAt.lists hl.is nJ.is hz h0 g,RcNeAt.lists hl.is nJ.is hz h0 g⟩
  ·rw[aR eC]at e
   have hz:(ia.size != ic.size)=u:=Dy.mpr (l1▸l2▸eC);rw[<-aT e];exact⟨RcAt.lists_lengths hl.is nJ.is hz h0,RcNeAt.lists_lengths hl.is nJ.is hz h0⟩
theorem Qk{k:Kind}(h:Qj k=Z es):k= .rD es:=by cases k<;>first|exact cI h|exact aW Kind.rD (aT h)
theorem YN{k:Kind}{xs:Y J}(h:HV k=Z xs):k= .sH xs:=by cases k<;>first|exact cI h|exact aW Kind.sH (aT h)
structure WOk(W:Wd):Prop where
 sys:W.h0.get? D1≠aB
 rD:∀n es,W.G.kind n= .rD es->∃d bX ep,W.lX n=Z (.ref d)/\(d==D1)=aE/\W.h0.DictAt (nF W.prog W.w) d bX ep/\iV W [] W.h0 es bX
 sH:∀n xs,W.G.kind n= .sH xs->xs.length<=aF/\∃a items,W.lX n=Z (.ref a)/\oH W.h0 a items/\cX W [] W.h0 (xs.map .int) items.toList
set_option tactic.hygienic true in
theorem iV.Qq(r:iV W S h es bX)(k:J):
  (fR es k=aB/\G9 bX k=aB)\/yY (λx y=>fR es k=Z x) (λx y=>G9 bX k=Z y) (λx y=>cB W S h x y):=by
 induction r with
 | nil=>exact .inl ⟨rfl,rfl⟩
 | cons hx hs ih=>
  rename_i k' x y es bX;by_cases e:k'=k;exact .inr ⟨x,y,by simp [fR,e],by simp [G9,e],hx⟩
  ·have h1:fR ((k',x)::es) k=fR es k:=by simp [fR,e]
   have h2:G9 ((k',y)::bX) k=G9 bX k:=by simp [G9,e]
   rw[h1,h2];exact ih
theorem iV.isSome(r:iV W S h es bX)(k:J):(G9 bX k).isSome=(fR es k).isSome:=by rcases r.Qq k with⟨a,b⟩|⟨x,y,a,b,_⟩<;>(rw[a,b];rfl)
theorem iV.length(r:iV W S h es bX):es.length=bX.length:=by
 induction r with
 | nil=>rfl
 | cons _ _ ih=>exact aW FD ih
theorem St.dictAt(s:St W S H h)(wo:WOk W){i:O}{es:Y (J×V)}{ep:aG O}{y:aJ}(e:H[i]?=Z (.dict es ep))(r:cB W S h (.ref i) y):
  Wk (λd bX n=>y= .ref d) (λd bX n=>S[i]?=Z (d,aB)) (λd bX n=>(d==D1)=aE) (λd bX n=>h.DictAt (nF W.prog W.w) d bX n) (λd bX n=>iV W S h es bX) (λd bX n=>(∀k,ep=Z k->n=k)):=by
 obtain⟨p,hy,hp⟩:=r.cN;obtain⟨a,bX,n,e1,he,hd,hr⟩:=(s.obj i _ _ e hp).cN;rw[e1]at hp hy;exact⟨a,bX,n,hy,hp,jB.mpr λq=>wo.sys (q▸s.fresh _ (.CC hp (CF _))),hd,hr,he⟩
theorem St.Uj(s:St W S H h):TP W.h0 h:=λa o e _=>s.iH a o e
theorem St.Ql(s:St W S H h)(wo:WOk W){n:O}{es:Y (J×V)}{y:aJ}(e:W.G.kind n= .rD es)(r:cB W S h (.g n) y):
  JY (λd bX ep=>y= .ref d) (λd bX ep=>(d==D1)=aE) (λd bX ep=>h.DictAt (nF W.prog W.w) d bX ep) (λd bX ep=>iV W S h es bX):=by
 obtain⟨d,bX,ep,e1,e2,e3,e4⟩:=wo.rD n es e;exact⟨d,bX,ep,aT (r.cN.symm.trans e1),e2,e3.keep s.iH,e4.cV (λi p q=>cI q) s.Uj⟩
theorem St.YS(s:St W S H h)(wo:WOk W){n:O}{xs:Y J}{y:aJ}(e:W.G.kind n= .sH xs)(r:cB W S h (.g n) y):
  ED (λa items=>y= .ref a) (λa items=>oH h a items) (λa items=>cX W S h (xs.map .int) items.toList) (λa items=>items.size<=aF):=by
 obtain⟨hz,a,items,e1,⟨m,e2⟩,e3⟩:=wo.sH n xs e;have hl:=e3.length;rw[cJ]at hl;exact⟨a,items,aT (r.cN.symm.trans e1),⟨m,s.iH _ _ e2⟩,e3.cV (λi p q=>cI q) s.Uj,by rw[hl]at hz;exact hz⟩
section
variable{t:sZ}{v:aJ}{x y:V}
noncomputable def Qe(a:J):aJ->aC
 | .int b _=>b==a
 | _=>aE
theorem gv'{vs:Y aJ}(r:cX W S h ys vs):∀{b:aC},NM a ys=Z b->(∀y∈vs,∃c t,y= .int c t)/\vs.any (Qe a)=b:=by
 induction r with
 | nil=>exact λe=>⟨λy hy=>(nA hy).elim,aT e⟩
 | cons hx hs ih=>
  intro b e;obtain⟨c,hc,e⟩:=dD e;obtain⟨q,hq,e⟩:=dD e;obtain⟨h1,h2⟩:=ih hq;rw[mW hc]at hx;obtain⟨t,rfl⟩:=hx.cN;refine⟨λy hy=>?_,?_⟩
  ·rcases oE.mp hy with hy|hy
   exact⟨c,t,hy⟩;exact h1 y hy
  ·rw[VP,h2,<-aT e]
   exact aW (· || q) BEq.comm
theorem gw'(r:cX W S s.heap ys items.toList)(e:NM a ys=Z b):
  (∀y,y∈items->EqAt A s y (.int a t) (Qe a y))/\items.any (Qe a)=b:=by
 obtain⟨h1,h2⟩:=gv' r e;refine⟨λy hy=>?_,by rw[<-h2,Array.any_toList]⟩;obtain⟨c,aN,rfl⟩:=h1 y (vt.mpr hy);exact EqAt.int_int _ _ _ _
def Wb(W:Wd)(A:dO)(s:aV)(v w:aJ)(b:aC):Prop:=∀{Q:aJ->aV->Prop} {E:aJ->aV->Prop},
  ((∀tk,Q (.bool b) {s with toks:=tk})->cG (Mo W) A (WC .In v w) Q E s)/\((∀tk,Q (.bool !b) {s with toks:=tk})->cG (Mo W) A (WC .NotIn v w) Q E s)
theorem au{d:bC}{n:O}(hs:(d==D1)=aE)(hd:s.heap.DictAt (nF W.prog W.w) d bX n)(hr:iV W S s.heap es bX)(e:Z (fR es a).isSome=Z b):Wb W A s (.int a t) (.ref d) b:=by rw[<-aT e,<-hr.isSome];intro Q E;exact⟨λq=>wpAny_in_of (G8 _ _ _ t) hs hd.dictOf.mapOf (q _),λq=>wpAny_notIn_of (G8 _ _ _ t) hs hd.dictOf.mapOf (q _)⟩
theorem av(wo:WOk W)(st:St W S H s.heap)(hy:cB W S s.heap y w)(e:SQ W.G a y H=Z b):Wb W A s (.int a t) w b:=by
 cases y with
 | aM ys=>
  obtain⟨_,_,rfl,hz,ht,hr⟩:=hy.cN;have h:=gw' (A:=A.in1) (t:=t) hr e;rw[<-h.2];intro Q E;exact⟨λq=>in_tupleAt _ ht.is h.1 (q s.toks),λq=>notIn_tupleAt _ ht.is h.1 (q s.toks)⟩
 | ref d=>
  obtain⟨p,hd,e⟩:=dD e;obtain⟨d,bX,n,rfl,hp,hs,Ha,hr,he⟩:=st.dictAt wo (MP hd) hy;exact au hs Ha hr e
 | g n=>
  obtain⟨es,hd,e⟩:=dD e;obtain⟨d,bX,ep,rfl,hs,Ha,hr⟩:=st.Ql wo (Qk hd) hy;exact au hs Ha hr e
 | _=>exact cI e
theorem bt(hx:cB W S h x v)(e:isNone x=Z b):plainIs v .none=u/\(v== .none)=b:=by cases hx<;>first|exact cI e|exact⟨rfl,aT e⟩
theorem NO{f:J->J->aC}(hx:cB W S h x v)(hy:cB W S h y w)(e:KN x y f=Z b):Wm (λa c t aN=>v= .int a t) (λa c t aN=>w= .int c aN) (λa c t aN=>f a c=b):=by obtain⟨a,ha,e⟩:=dD e;obtain⟨c,hc,e⟩:=dD e;rw[mW ha]at hx;rw[mW hc]at hy;obtain⟨t,h1⟩:=hx.cN;obtain⟨aN,h2⟩:=hy.cN;exact⟨a,c,t,aN,h1,h2,aT e⟩
theorem HQ{op:JF}(wo:WOk W)(hu:A.units+21<BQ)(st:St W S H s.heap)(hx:cB W S s.heap x v)(hy:cB W S s.heap y w)(e:xF W.G op x y H=Z b){Q:aJ->aV->Prop}{E:aJ->aV->Prop}
  (q:∀tk,Q (.bool b) {s with toks:=tk}):cG (Mo W) A (WC op v w) Q E s:=by
 cases op with
 | Eq=>exact (Y6 hu st hx hy e).1 _ _ _ _ (q s.toks)
 | NotEq=>
  obtain⟨c,hc,e⟩:=dD e;rw[<-aT e]at q;exact (Y6 hu st hx hy hc).2 _ _ _ _ (q s.toks)
 | Lt=>
  obtain⟨a,c,t,aN,rfl,rfl,rfl⟩:=NO hx hy e;exact PySem.P.lt_int (q s.toks)
 | LtE=>
  obtain⟨a,c,t,aN,rfl,rfl,rfl⟩:=NO hx hy e;exact PySem.P.le_int (q s.toks)
 | Gt=>
  obtain⟨a,c,t,aN,rfl,rfl,rfl⟩:=NO hx hy e;exact PySem.P.gt_int (q s.toks)
 | GtE=>
  obtain⟨a,c,t,aN,rfl,rfl,rfl⟩:=NO hx hy e;exact PySem.P.ge_int (q s.toks)
 | Is=>
  obtain⟨hn,e⟩:=iY e;rw[NR hn]at hy;obtain⟨h1,h2⟩:=bt hx e;rw[show w= .none from hy.cN];exact wpAny_is_plain h1 (h2▸q s.toks)
 | IsNot=>
  obtain⟨hn,e⟩:=iY e;obtain⟨c,hc,e⟩:=dD e;rw[NR hn]at hy;obtain⟨h1,h2⟩:=bt hx hc;rw[show w= .none from hy.cN];rw[<-aT e]at q;exact wpAny_isNot_plain h1 (h2▸q s.toks)
 | In=>
  obtain⟨a,ha,e⟩:=dD e;rw[mW ha]at hx;obtain⟨t,rfl⟩:=hx.cN;exact (av wo st hy e).1 q
 | NotIn=>
  obtain⟨a,ha,e⟩:=dD e;obtain⟨c,hc,e⟩:=dD e;rw[mW ha]at hx;obtain⟨t,rfl⟩:=hx.cN;rw[<-aT e]at q;exact (av wo st hy hc).2 q
end
theorem hO'(l:bC)(items:gN aJ)(n:O)(i:J)(aN:sZ)(v:aJ)(hi:0<=i)(zM:VB i=u)(hk:i.toNat<items.size):
  Meets (Builtin.«list.__setitem__» ⟨[.ref l,.int i aN,v],[]⟩)
   (λ_ bG s=>s.heap.get? l=Z {cls:=.type "list",dict:=aB,data:=.seq items n,slots:= #[]}/\bG (.ok (.ret .none)) {s with heap:=s.heap.update l (FF (·.setIfInBounds i.toNat v))}):=
 .of_wp λprog w A bG s h=>by
  obtain⟨hl,h⟩:=h;show cG _ _ (Oy (.int i aN) >>= _) _ _ s;refine bN (m7 zM ?_);clear zM;obtain⟨k,rfl⟩:=yH hi;have nI:k<items.size:=hk;have hy:items[k]?=Z items[k]:=Iw nI;show cG _ _ ((seqItemAt l k >>= λr=>pure (r.map (k,·))) >>= _) _ _ s;refine bN (bN (wpAny_seqItemAt hl rfl (eF ?_)));rw[hy];show cG _ _ (setSeqItemAt l k v >>= _) _ _ s;refine bN (r9 hl rfl ?_);first
   | exact eF ⟨_,rfl,h⟩
   | exact bN (eF (eF ⟨_,rfl,h⟩))
theorem hQ'(l:bC)(items:gN aJ)(n:O)(i:J)(aN:sZ)(k:O)(v:aJ)(h0:i<0)(zM:VB i=u)(hi:Pe i items.size=Z k)(hk:k<items.size):
  Meets (Builtin.«list.__setitem__» ⟨[.ref l,.int i aN,v],[]⟩)
   (λ_ bG s=>s.heap.get? l=Z {cls:=.type "list",dict:=aB,data:=.seq items n,slots:= #[]}/\bG (.ok (.ret .none)) {s with heap:=s.heap.update l (FF (·.setIfInBounds k v))}):=
 .of_wp λprog w A bG s h=>by
  obtain⟨hl,h⟩:=h;show cG _ _ (Oy (.int i aN) >>= _) _ _ s;refine bN (m7 zM ?_);clear zM;obtain⟨j,rfl⟩:∃j:O,i=xi j:=by
   cases i with
   | ofNat n=>exact absurd h0 (oD.mpr (Int.ofNat_nonneg n))
   | negSucc n=>exact⟨n,rfl⟩
  have hy:items[k]?=Z items[k]:=Iw hk;show cG _ _ ((VC (.ref l) >>= λxs=>pure ((Pe (xi j) xs.size).bind λi=>xs[i]?.map (i,·))) >>= _) _ _ s;refine bN (bN ?_);show cG _ _ (seqItems? (.ref l) >>= _) _ _ s;refine bN (n7 hl rfl (eF (eF ?_)));rw[hi];simp only[Option.bind_some,hy,FH];show cG _ _ (setSeqItemAt l k v >>= _) _ _ s;refine bN (r9 hl rfl ?_);first
   | exact eF ⟨_,rfl,h⟩
   | exact bN (eF (eF ⟨_,rfl,h⟩))
theorem Op{E:aJ->aV->Prop}{o i v:aJ}{Q:vH->aV->Prop}(hT:s.TypeIs o T)(hn:seqItemTypes.contains T=aE)(iP:Slot T "__setitem__" id)
  (hc:cG M A (call (.builtin id) [o,i,v]) (λ_ s'=>Q () s') E s):cG M A (JO o i v) Q E s:=by
 unfold JO;refine jN ?_;refine bN (wpAny_sequenceKey hT hn ?_);exact bN (wpAny_callSpecial?_slot hT iP (nG hc (λv s' h'=>eF h') λ_ _ e=>e))
theorem iq'(f:gN aJ->gN aJ)(ce:gN aJ)(n:O):∃m,FF f {cls:=.type "list",dict:=aB,data:=.seq ce n,slots:= #[]}= {cls:=.type "list",dict:=aB,data:=.seq (f ce) m,slots:= #[]}:=
 ⟨_,rfl⟩
section
variable{a n:O}{r x:V}{t:sZ}{v:aJ}
theorem Mv.listUpdate{i:O}{a:bC}{f:gN aJ->gN aJ}(st:St W S H h)(hp:S[i]?=Z (a,aB))(hl:oH h a items)(hz:ys.length<=aF)
  (hr:cX W S h ys (f items).toList):Mv W X0 S h S (H.set i (.list ys)) (h.update a (FF f)):=by
 obtain⟨n,ho⟩:=hl;obtain⟨m,hm⟩:=iq' f items n;have g:(h.update a (FF f)).get? a=Z {cls:=.type "list",dict:=aB,data:=.seq (f items) m,slots:= #[]}:=by
  rw[VJ _ ho (by rw[hm];rfl),hm]
 have sb:=VI h a (FF f);refine .TX st hp (λb o hb e=>?_) (λtp=>.list hz ⟨m,g⟩ (hr.cV (λ_ _ e=>e) tp)) (λb hb o e=>?_);rw[sb.2 b (λq=>hb (by subst q;exact CF _))];exact e;rw[uT hb,g]at e;exact aT e▸Ke rfl
theorem N9(h:kQ i n=Z k):k<n/\((0<=i/\i=k)\/(i<0/\i+n=k)):=by
 unfold kQ at h;by_cases h0:0<=i
 ·rw[aZ h0]at h
  by_cases h1:i<n
  ·rw[aZ h1]at h
   have e:=aT h;exact⟨e▸(yK h0).mpr h1,.inl ⟨h0,e▸(pG h0).symm⟩⟩
  ·rw[aR h1]at h;exact cI h
 ·rw[aR h0]at h
  by_cases h1:0<=i+n
  ·rw[aZ h1]at h
   have e:=aT h;have hi:=xj.mp h0;exact⟨e▸(yK h1).mpr (mZ (Int.add_lt_add_right hi n) (Dq (I2 _))),.inr ⟨hi,e▸(pG h1).symm⟩⟩
  ·rw[aR h1]at h;exact cI h
theorem ol(h:kQ i n=Z k):Pe i n=Z k:=by
 obtain⟨h1,h2⟩:=N9 h;have e:Pe i n=if (decide (0<=(if i<0 then i+n else i))&&decide ((if i<0 then i+n else i)<n))=u then Z (if i<0 then i+n else i).toNat else aB:=rfl
 rw[e];have hk:=AM.mpr ⟨decide_eq_true (eQ k),decide_eq_true (eZ.mpr h1)⟩;rcases h2 with⟨h2,h3⟩|⟨h2,h3⟩
 rw[aR (oD.mpr h2),h3,aZ hk];rfl;rw[aZ h2,h3,aZ hk];rfl
theorem eN'{l:bC}{Q:aJ->aV->Prop}{E:aJ->aV->Prop}(hl:oH s.heap l items)(hs:items.size<=aF)(hk:kQ i items.size=Z k)(hy:items[k]?=Z y)(h:Q y s):
  cG (Mo W) A (G6 (.ref l) (.int i t)) Q E s:=by
 obtain⟨h1,h2⟩:=N9 hk;rw[KX]at hs;rcases h2 with⟨h2,h3⟩|⟨h2,h3⟩
 exact wpAny_getItem_list hl.is h2 (h3▸TC h1 hs) (by rw[h3];exact hy) h;exact wpAny_getItem_list_neg hl.is h2 (Int.le_of_add_le_add_right (by rw[Int.add_left_neg,h3];exact eQ k)) (TD h3 hs) (by rw[h3];exact hy) h
theorem Ww(hr:cX W S h xs items.toList)(e:BX xs i=Z r):yY (λj y=>kQ i items.size=Z j) (λj y=>items[j]?=Z y) (λj y=>cB W S h r y):=by obtain⟨j,hp,e⟩:=dD e;obtain⟨y,hy,hv⟩:=hr.get e;rw[show xs.length=items.size from hr.length]at hp;exact⟨j,y,hp,by rw[<-Dl];exact hy,hv⟩
theorem YL{d:bC}(st:St W S H s.heap)(hd:s.heap.DictAt (nF W.prog W.w) d bX n)(hr:iV W S s.heap es bX)(e:fR es i=Z r):Cg W A s S (G6 (.ref d) (.int i t)) (r,H):=λQ E k=>by
 rcases hr.Qq i with⟨h1,_⟩|⟨p,q,h1,h2,hv⟩
 ·exact cI (h1.symm.trans e)
 ·rw[aT (h1.symm.trans e)]at hv
  exact wpAny_getItem_of (G8 _ _ _ t) hd.dictOf.mapOf h2 (k.fC st hv)
theorem ag(wo:WOk W)(st:St W S H s.heap)(hx:cB W S s.heap x v)(e:Au W.G x i H=Z r):Cg W A s S (G6 v (.int i t)) (r,H):=by
 cases x with
 | aM xs=>
  obtain⟨a,items,rfl,hz,⟨n,ho⟩,hr⟩:=hx.cN;obtain⟨j,y,hp,hy,hv⟩:=Ww hr e;obtain⟨h1,h2⟩:=N9 hp;have hz:items.size<=16000000:=hr.size▸hz;exact λQ E k=>PySem.P.getItem_tuple ho (h2.elim (λh=>gB (by decide) h.1) λh=>TD h.2 hz) (h2.elim (λh=>h.2▸TC h1 hz) λh=>yI h.1 (by decide)) (ol hp) hy (k.vT st hv)
 | ref l=>
  obtain⟨ob,ho,e⟩:=dD e;cases ob with
  | list xs=>
   obtain⟨a,ia,rfl,hp,hl,hr,hz⟩:=st.rL ho hx;obtain⟨j,y,hp,hy,hv⟩:=Ww hr e;exact λQ E k=>eN' hl hz hp hy (k.vT st hv)
  | dict es ep=>
   obtain⟨d,bX,n,rfl,hp,hs,hd,hr,he⟩:=st.dictAt wo ho hx;exact YL st hd hr e
  | inst=>exact cI e
 | g n=>
  obtain⟨es,hd,e⟩:=dD e;obtain⟨d,bX,ep,rfl,hs,hd,hr⟩:=st.Ql wo (Qk hd) hx;exact YL st hd hr e
 | _=>exact cI e
def Pj(n d:O)(o:aG J)(a:O):Prop:=a<=n/\(o=aB/\a=d\/o=Z (a:J))
theorem XN(hd:d<=n)(hx:cB W S h x v)(e:MJ n d x=Z a):fQ (λo=>IsPart v o) (λo=>Pj n d o a):=by
 unfold MJ at e;cases hq:kK x with
 | none=>
  rw[hq]at e;obtain⟨hn,e⟩:=iY e;rw[NR hn]at hx;rw[show v=_ from hx.cN,<-aT e];exact⟨aB,.none,hd,.inl ⟨rfl,rfl⟩⟩
 | some i=>
  rw[hq]at e;obtain⟨hi,e⟩:=iY e;rw[mW hq]at hx;obtain⟨t,rfl⟩:=hx.cN;have h0:=fY (aO hi).1;have h1:=fY (aO hi).2;rw[<-aT e];exact⟨Z i,.int i t,E4.mpr h1,.inr (by rw[pG h0])⟩
theorem nH'{lo hi:aG J}{b:O}(ha:Pj items.size 0 lo a)(hb:Pj items.size items.size hi b):slicePick items lo hi aB=((items.toList.take b).drop a).toArray:=by
 have e:Lm lo hi aB items.size=((a:J),(b:J),1):=by
  obtain⟨Ys,ha⟩:=ha;obtain⟨Yu,hb⟩:=hb;have h1: ¬ ((a:J)<0):=oD.mpr (eQ a);have h2: ¬ ((b:J)<0):=oD.mpr (eQ b);rcases ha with⟨rfl,rfl⟩|rfl<;>rcases hb with⟨rfl,rfl⟩|rfl <;>
   simp only[Lm,Vq,h1,h2,Pa,show (1:J)>0 by decide,G7]
  rfl;rw[H9 Yu];rfl;rw[H9 Ys];rw[H9 Ys,H9 Yu]
 unfold slicePick;rw[e];show ((sliceRange (a:J) (b:J) 1).filterMap (items[·]?)).toArray=_;rw[sliceRange_one,pick_run,List.drop_take]
def v7(W:Wd)(A:dO)(s:aV)(v vl vu:aJ)(Q E:aJ->aV->Prop):Prop:=yY (λT id=>s.TypeIs v T) (λT id=>FN (.type T) "__getitem__"=pure (Z (.builtin id))) (λT id=>cG (Mo W) A (G6 v (.ref s.heap.objs.size)) Q E {s with heap:=s.heap.push {cls:=.type "slice",data:=.fields #[vl,vu,.none]}})
theorem nI'{x lo hi:V}{r:V×Hp}(st:St W S H s.heap)(hx:cB W S s.heap x v)(hl:cB W S s.heap lo vl)(hh:cB W S s.heap hi vu)(e:Ig x lo hi H=Z r){Q:aJ->aV->Prop}{E:aJ->aV->Prop}
  (k:yX W s S r Q):v7 W A s v vl vu Q E:=by
 have mp:=Mv.push st {cls:=.type "slice",data:=.fields #[vl,vu,.none]};cases x with
 | aM xs=>
  obtain⟨i,J5,e⟩:=dD e;obtain⟨hc,e⟩:=iY e;rw[mW J5]at hl;rw[NR (aO hc).1]at hh;have hc:=aO (aO hc).2;obtain⟨t,items,rfl,hz,⟨n,ho⟩,hr⟩:=hx.cN;obtain⟨aN,rfl⟩:=hl.cN;have KG:vu= .none:=hh.cN;subst KG;have eC:xs.length=items.size:=hr.length;have h1:=fY hc.1;have h2:=fY hc.2;clear hc J5 hl hh hx;obtain⟨m,rfl⟩:=yH (gB (by decide) h1);rw[<-aT e]at k;refine⟨"tuple",_,⟨_,ho,rfl⟩,l7.lookup,?_⟩;have SB:IsTup (s.heap.push {cls:=.type "slice",data:=.fields #[.int (m:J) aN,.none,.none]}) t items:=⟨_,sV _ ho,rfl,n,rfl⟩;refine getItem_tuple_from SB (VH ..) (fV.mp h1) (eC▸fV.mp h2) ?_ (vA (eC▸hz));have m2:=Mv.newTuple (n:=0) (items:=(items.toList.drop m).toArray) (xs:=xs.drop m) mp.st (aL (by rw[LX];exact fW ..) hz) ((hr.mv st mp).drop m);exact k _ _ s.toks _ (mp.trans m2.1) m2.2
 | ref l=>
  obtain⟨xs,hA,e⟩:=dD e;obtain⟨p,mQ,e⟩:=dD e;obtain⟨q,R3,e⟩:=dD e;obtain⟨a,ia,rfl,hp,xM,hr,hz⟩:=st.rL (wG hA) hx;rw[show xs.length=ia.size from hr.length]at mQ R3;obtain⟨lo',l1,l2⟩:=XN (nD _) hl mQ;obtain⟨J5,l3,l4⟩:=XN (cE _) hh R3;have KL:xs.length<=aF:=hr.size▸hz;clear hA hx hl hh mQ R3;rw[<-aT e]at k;refine⟨"list",_,xM.is.typeIs,l6.lookup,?_⟩;refine wpAny_getItem_list_slice (xM.is.push _) (VH ..) l1 l3 .none (by simp) ?_ (vA hz);rw[nH' l2 l4];have m2:=Mv.newList (n:=0) (items:=((ia.toList.take q).drop p).toArray) (xs:=(xs.take q).drop p) mp.st (aL (by rw[LX,Dt];exact aL (fW ..) (PN ..)) KL) (((hr.mv st mp).take q).drop p);exact k _ _ s.toks _ (mp.trans m2.1) m2.2
 | _=>exact cI e
end
def Pt(W:Wd)(s:aV)(S:Mp)(H:Hp)(Q:aV->Prop):Prop:=
 ∀μ' h' tk,Mv W X0 S s.heap μ' H h'->Q {s with heap:=h',toks:=tk}
theorem dJ'{E:aJ->aV->Prop}{d:bC}{k:J}{t:sZ}{v:aJ}{Q:vH->aV->Prop}(hm:s.heap.DictAt (nF W.prog W.w) d bX ep)
  (hQ:∀h',h'.DictAt (nF W.prog W.w) d (stored bX k v) (if (bX.any λkv=>decide (kv.1=k)) then ep else ep+1)->O0 d s.heap h'->Q () {s with heap:=h',toks:=s.toks+1})
  (eC:bX.length<=AR):cG (Mo W) A (dictSet d (.int k t) v) Q E s:=by
 have Br:=G8 W.prog W.w k t;obtain⟨o,es,ho,hc,hd,hk,hp,hn⟩:=hm;have hes:es.size<=AR:=aL (dH hp.length) eC;have ZF:(es.findIdx? λe=>(nF W.prog W.w).is k e.key)=bX.findIdx? λkv=>decide (kv.1=k):=by
  rw[<-hp.findIdx k];obtain⟨l⟩:=es;simp
 unfold dictSet;refine jN (bN ((nF W.prog W.w).pyHash Br ?_));unfold dictSetHashed;refine jN (bN (wpAny_dictFind_of (s:= {s with toks:=s.toks+1}) Br ho hd hk ?_));cases hi:es.findIdx? λe=>(nF W.prog W.w).is k e.key with
 | some i=>
  have Fx:=any_of_findIdx_some (ZF▸hi);rw[Fx]at hQ;simp only[G7]at hQ;refine bN (Pi (bN (wpAny_updateDict (s:= {s with toks:=s.toks+1}) ho hd (wpAny_point (hQ _ ⟨_,_,VJ _ ho (b8 (b4 hd _)),
   hc.mapDict _,b4 hd _,hk.modify _ _,?_,?_⟩ (VI ..))) (by simp))))
  ·rw[stored,aZ Fx]
   have hl:(es.toList.findIdx? λe=>(nF W.prog W.w).is k e.key)=Z i:=by rw[<-hi];obtain⟨l⟩:=es;simp
   have:=hp.modify hn hl v;obtain⟨l⟩:=es
   simpa using this
  ·rw[stored,aZ Fx,keys_map_store];exact hn
 | none=>
  have ZX:k∉bX.map (·.1):=not_mem_of_findIdx_none (ZF▸hi);have Fx: ¬ (bX.any λkv=>decide (kv.1=k))=u:=by
   rw[E5];rintro⟨kv,He,he⟩;exact ZX (E8.mpr ⟨kv,He,fY he⟩)
  rw[aR Fx]at hQ;refine bN (Pi (wpAny_updateDictKeys (hz:=hes) (s:= {s with toks:=s.toks+1}) ho hd (hQ _ ⟨_,_,VJ _ ho (b8 (b7 hd _)),
   hc.mapDictKeys _,b7 hd _,hk.push Br _,?_,?_⟩ (VI ..))))
  ·rw[stored,aR Fx]
   have:=hp.append Br ((nF W.prog W.w).hash k) v;obtain⟨l⟩:=es
   simpa using this
  ·rw[stored,aR Fx,kM,yq]
   refine⟨hn,by simp,?_⟩;intro a ha b hb;simp only[yN,ym,iU]at hb;subst hb;exact λe=>ZX (e▸ha)
theorem nd'{E:aJ->aV->Prop}{d:bC}{k:J}{t:sZ}{v:aJ}{Q:vH->aV->Prop}(hm:s.heap.DictAt (nF W.prog W.w) d bX ep)
  (hQ:∀h',h'.DictAt (nF W.prog W.w) d (stored bX k v) (if (bX.any λkv=>decide (kv.1=k)) then ep else ep+1)->O0 d s.heap h'->Q () {s with heap:=h',toks:=s.toks+1})
  (eC:bX.length<=AR):cG (Mo W) A (JO (.ref d) (.int k t) v) Q E s:=by
 refine Op hm.dictOf.typeIs (by decide) k9 (wpAny_call_entry k9 hm.dictOf.typeIs entry_dict_setitem ?_ (args_dict_setitem _ _ _));show cG _ _ (qq' "__setitem__" ⟨[.ref d,.int k t,v],[]⟩ >>= _) _ _ s;refine bN (wpAny_notOrdered_dict hm.dictOf.typeIs ?_);show cG _ _ (dictSet d (.int k t) v >>= _) _ _ s;exact bN (dJ' hm (λh' h1 h2=>eF ⟨.none,rfl,hQ h' h1 h2⟩) eC)
theorem iV.any(r:iV W S h es bX)(k:J):(bX.any λkv=>decide (kv.1=k))=es.any λe=>e.1==k:=by
 induction r with
 | nil=>rfl
 | cons _ _ ih=>exact aW (_ || ·) ih
theorem eo'(es:Y (J×V))(k:J):(fR es k).isSome=es.any λe=>e.1==k:=by unfold fR;rw[c7,Ou,List.find?_isSome,E5]
set_option tactic.hygienic true in
theorem iV.ir'{k:J}{x:V}(hv:cB W S h x y)(r:iV W S h es bX):
  iV W S h (es.map λe=>if e.1==k then (k,x) else e) (bX.map λkv=>if kv.1=k then (kv.1,y) else kv):=by
 induction r with
 | nil=>exact .nil
 | cons hx _ ih=>
  rename_i k' _ _ _ _ _;rw[yN,yN];by_cases e:k'=k;rw[aZ e,aZ (kB.mpr e),e];exact .cons hv ih;rw[aR e,aR (λq=>e (kB.mp q))];exact .cons hx ih
theorem iV.append{GL:Y (J×aJ)}(h':iV W S h es' GL)(r:iV W S h es bX):iV W S h (es++es') (bX++GL):=by
 induction r with
 | nil=>exact h'
 | cons hx _ ih=>exact .cons hx ih
theorem iV.OY{k:J}{x:V}(hv:cB W S h x y){es:Y (J×V)}{bX:Y (J×aJ)}(r:iV W S h es bX):iV W S h (yA es k x) (stored bX k y):=by unfold yA stored;rw[r.any k];split;exact r.ir' hv;exact iV.append (.cons hv .nil) r
theorem ve{E:aJ->aV->Prop}{l:bC}{o:gQ}{n:O}{Q:gN aJ->aV->Prop}(ho:s.heap.get? l=Z o)(hd:o.data= .seq items n)(h:Q items s):
  cG M A (VC (.ref l)) Q E s:=by
 unfold VC;exact bN (n7 ho hd (eF h))
theorem hR'(l m sl:bC)(items Av:gN aJ)(n n2:O)(vl vu:aJ)(lo hi:aG J)(pl:IsPart vl lo)(pu:IsPart vu hi)(a b:O)(hb:Lm lo hi aB items.size=((a:J),(b:J),1))(J9:l≠m)(zK:a<=b)(hbs:b<=items.size)(eC:items.size+Av.size<=AR):
  Meets (Builtin.«list.__setitem__» ⟨[.ref l,.ref sl,.ref m],[]⟩)
   (λ_ bG s=>A4 (s.heap.get? l=Z {cls:=.type "list",dict:=aB,data:=.seq items n,slots:= #[]}) (s.heap.get? m=Z {cls:=.type "list",dict:=aB,data:=.seq Av n2,slots:= #[]}) (s.heap.IsSliceOf sl vl vu .none) (bG (.ok (.ret .none)) {s with heap:=s.heap.update l (FF λxs=>xs.extract 0 a++Av++xs.extract b xs.size)})):=
 .of_wp λprog w A bG s h=>by
  obtain⟨hl,hm,hs,h⟩:=h;obtain⟨os,NC,hcs,qJ⟩:=id hs;have Yr:s.TypeIs (.ref sl) "slice":=⟨os,NC,hcs⟩;show cG _ _ (Oy (.ref sl) >>= _) _ _ s;refine bN ?_;unfold Oy;refine bN (s7 Yr slice_no_index ?_);simp only[Option.isNone_none,G7];refine eF ?_;show cG _ _ (typeOf (.ref sl) >>= _) _ _ s;refine bN (wpAny_typeOf Yr ?_);rw[aR (by decide)];rw[listSliceParts_eq];refine bN (bN (WR NC qJ (x:=.none) rfl (bN (WT .none ?_))));rw[aR (by simp [rawPart,rawInt])];refine bN (WR NC qJ (x:=vl) rfl (bN (WT pl ?_)));refine bN (WR NC qJ (x:=vu) rfl (bN (WT pu (eF ?_))));have gF:wd (.ref l) (.ref m)=aE:=by simp [wd,J9]
  simp only[gF,VA,Pa];refine bN (m:=wc (.ref m) _) ?_;unfold wc;refine bN (wpAny_typeOf (T:="list") ⟨_,hm,rfl⟩ ?_);rw[aZ (by decide)];refine ve hm rfl ?_;refine bN (ve hl rfl ?_);refine bN (wpAny_of_eq (sliceIndices_raw lo hi aB items.size (by simp)) ?_);rw[hb];have fG':max (a:J) (b:J)=(b:J):=xg (fV.mpr zK);simp only[Ce,G7,fG',Gv];refine bN (Pi ?_);rw[aR (by simp [VD];lia)];have SK:(items.extract 0 a++Av++items.extract b items.size).size<=AR+1:=by simp;exact nP (aL (dH (gC ..).symm) (aL (dk zK hbs) eC))
  refine bN (m:=updateSeq l _) (wpAny_updateSeq hl rfl ?_ (by lia) SK);refine bN (wpAny_letGo ?_);exact eF ⟨_,rfl,h⟩
section
variable{aN v:aJ}
theorem oq{x z:V}{t:sZ}(wo:WOk W)(st:St W S H s.heap)(hx:cB W S s.heap x v)(hz:cB W S s.heap z aN)(e:Ib x i z H=Z H'){Q:vH->aV->Prop}{E:aJ->aV->Prop}
  (k:Pt W s S H' (Q ())):cG (Mo W) A (JO v (.int i t) aN) Q E s:=by
 obtain⟨l,hl,e⟩:=dD e;obtain⟨ob,ho,e⟩:=dD e;obtain⟨gz,hb,e⟩:=dD e;rw[yD hl]at hx;rw[<-aT e]at k;clear hl e;cases ob with
 | list xs=>
  obtain⟨k',nI,e⟩:=dD hb;rw[<-aT e]at k;obtain⟨a,ia,rfl,hp,hl,hr,eC⟩:=st.rL ho hx;rw[hr.size]at nI;obtain⟨n,ho⟩:=id hl;obtain⟨h1,h2⟩:=N9 nI;have hq:Q () {s with heap:=s.heap.update a (FF (·.setIfInBounds k' aN))}:=by
   refine k _ _ s.toks (Mv.listUpdate st hp hl (by rw[mI,hr.size];exact eC) ?_);rw[Array.toList_setIfInBounds];exact cX.set hz hr _
  have eC:ia.size<=16000000:=eC;clear k hr hx hz hb e;rcases h2 with⟨h2,h3⟩|⟨h2,h3⟩
  ·refine Op hl.is.typeIs (by decide) JP (FI JP hl.is.typeIs WG (Vw _ _ _) (hO' a ia n i t aN h2 (fitsIndex_of h2 (h3▸TC h1 eC)) (by rw[h3];exact h1)) ⟨ho,?_⟩)
   rw[h3];exact hq
  ·exact Op hl.is.typeIs (by decide) JP (FI JP hl.is.typeIs WG (Vw _ _ _) (hQ' a ia n i t k' aN h2 (fitsIndex_neg h2 (TD h3 eC)) (ol nI) h1) ⟨ho,hq⟩)
 | dict es ep=>
  obtain⟨hi,e⟩:=iY hb;rw[<-aT e]at k;obtain⟨d,bX,n,rfl,hp,hs,hd,hr,he⟩:=st.dictAt wo ho hx;have hi:es.length<=16000000:=fY hi;refine nd' hd (λh' h1 h2=>?_) (vA (hr.length▸hi));rw[hr.any i,<-eo']at h1;refine k _ _ _ (Mv.TX st hp (λb o hb e=>?_) (λtp=>.dict (λk hk=>?_) h1 ((hr.cV (λ_ _ e=>e) tp).OY (hz.cV (λ_ _ e=>e) tp))) (λb hb o e=>?_));rw[h2.2 b (λq=>hb (q▸CF _))];exact e
  ·cases hf:(fR es i).isSome with
   | true=>rw[hf]at hk;exact he k hk
   | false=>
    rw[hf]at hk;cases ep with
    | none=>exact cI hk
    | some m=>rw[he m rfl];exact aT hk
  ·obtain⟨o',es',g1,_,g2,_⟩:=h1
   rw[uT hb,g1]at e;exact aT e▸GS g2
 | inst=>exact cI hb
theorem nf'{x lo hi z:V}(st:St W S H s.heap)(hx:cB W S s.heap x v)(hl:cB W S s.heap lo vl)(hh:cB W S s.heap hi vu)(hz:cB W S s.heap z aN)(e:UH x lo hi z H=Z H'){Q:vH->aV->Prop}{E:aJ->aV->Prop}
  (k:Pt W s S H' (Q ())):cG (Mo W) A (JO v (.ref s.heap.objs.size) aN) Q E {s with heap:=s.heap.push {cls:=.type "slice",data:=.fields #[vl,vu,.none]}}:=by
 have mp:=Mv.push st {cls:=.type "slice",data:=.fields #[vl,vu,.none]};obtain⟨l,Ao,e⟩:=dD e;obtain⟨a,J0,e⟩:=dD e;obtain⟨b,hb',e⟩:=dD e;obtain⟨m,KA,e⟩:=dD e;obtain⟨xs,hA,e⟩:=dD e;obtain⟨ys,hB,e⟩:=dD e;obtain⟨hc,e⟩:=iY e;rw[yD Ao]at hx;rw[mW J0]at hl;rw[mW hb']at hh;rw[yD KA]at hz;rw[<-aT e]at k;simp only[LM,WE]at hc;obtain⟨J9,ha,zK,hb,eC⟩:=hc;obtain⟨al,ia,rfl,hp,M6,rI,lJ⟩:=st.rL (wG hA) hx;obtain⟨am,im,rfl,lQ,nJ,kP,mA⟩:=st.rL (wG hB) hz;obtain⟨ta,rfl⟩:=hl.cN;obtain⟨tb,rfl⟩:=hh.cN;have e1:=rI.size;have e2:=kP.size;have gF:al≠am:=λq=>J9 (st.apart l m _ _ al hp lQ (CF _) (q▸CF _));obtain⟨n,ho⟩:=id M6;obtain⟨n2,EX⟩:=id nJ;have rH:=sV {cls:=.type "slice",data:=.fields #[JI a ta,JI b tb,.none]} ho;have fK':=sV {cls:=.type "slice",data:=.fields #[JI a ta,JI b tb,.none]} EX;obtain⟨a,rfl⟩:=yH ha;obtain⟨b,rfl⟩:=yH (gB ha zK);have RF:a<=b:=fV.mp zK;have qI:b<=ia.size:=e1▸fV.mp hb;have Yv:Lm (Z (a:J)) (Z (b:J)) aB ia.size=((a:J),(b:J),1):=by
  have h1: ¬ ((a:J)<0):=oD.mpr ha;have h2: ¬ ((b:J)<0):=oD.mpr (gB ha zK);simp only[Lm,Vq,h1,h2,Pa,show (1:J)>0 by decide,G7];rw[H9 (aL RF qI),H9 qI]
 have SA:ia.size+im.size<=16000000:=by rw[<-e1,<-e2];exact eC
 refine Op (T:="list") ⟨_,rH,rfl⟩ (by decide) JP (FI JP ⟨_,rH,rfl⟩ WG (Vw _ _ _)
  (hR' al am _ ia im n n2 _ _ _ _ (.int _ ta) (.int _ tb) a b Yv gF RF qI (vA SA)) ⟨rH,fK',VH ..,?_⟩)
 refine k _ _ s.toks (mp.trans (Mv.listUpdate mp.st hp ⟨n,rH⟩ ?_ ?_))
 ·rw[bA,bA,Dt,LX]
  refine aL ?_ eC;exact dk RF (e1▸qI)
 ·have r1:=rI.mv st mp
  have r2:=kP.mv st mp;have:(ia.extract 0 a++im++ia.extract b ia.size).toList=ia.toList.take a++im.toList++ia.toList.drop b:=by
   simp;exact yy (by simp)
  rw[this];exact ((r1.take a).append r2).append (r1.drop b)
end
structure D2 where
 nm:aU
 q:aU
 bs:Y aJ
 sn:Y aU
 sub:Y aJ
 col:aG aC
 dd:aG bC
 k0:aG aJ
 k1:aG aJ
 k2:aG aJ
 k3:aG aJ
 k5:aG aJ
noncomputable abbrev D2.obj(p:D2)(C N:bC):gQ:=excClassObj p.nm p.q C N p.bs [.type "object"] u p.sn p.sub aE p.col p.dd p.k0 p.k1 p.k2 p.k3 p.k5 "object.__new__"
structure WX(W:Wd)(c gR:O)(C N:bC)(mN:aU->aG aJ)(p:D2):Prop where
 ga:W.lX c=Z (.ref C)
 obj:W.h0.get? C=Z (p.obj C N)
 ns:W.h0.Ns N mN
 gn:mN "__getattribute__"=aB
 iN':mN "__getattr__"=aB
 iP':mN "__setattr__"=aB
 gR:ED (λfI oI=>W.lX gR=Z (.ref fI)) (λfI oI=>mN "__init__"=Z (.ref fI)) (λfI oI=>W.h0.get? fI=Z oI) (λfI oI=>oI.cls= .type "function")
 dat:∀a x,W.G.qF c a=u->W.an a=Z x->mN x=aB/\FN (.type "object") x=pure aB
 aX:∀a f x,W.G.aX c a=Z f->W.an a=Z x->JZ (λfa DS y=>mN x=Z (.ref fa)) (λfa DS y=>W.lX f=Z (.ref fa)) (λfa DS y=>W.h0.get? fa=Z DS) (λfa DS y=>DS.cls= .type "function") (λfa DS y=>FN (.type "object") x=pure y)
noncomputable def MD:Lo->aJ
 | .len=>.builtin "len"
 | .min=>.builtin "min"
 | .max=>.builtin "max"
 | .range=>.type "range"
 | .list=>.type "list"
 | .tuple=>.type "tuple"
 | .sum=>.builtin "sum"
 | .Tr _=>.builtin ""
structure qC(W:Wd):Prop extends WOk W where
 cls:∀c gR,W.G.kind c= .cls gR->Px (WX W c gR)
 inj:∀a b x,W.an a=Z x->W.an b=Z x->a=b
 names:∃ns:Y aU,ns.length<=AR/\∀a x,W.an a=Z x->x∈ns
 handed:∀n v,W.lX n=Z v->WK v=pure v
 blt:∀n b,W.G.kind n= .blt b->W.lX n=Z (MD b)
 YU:∀n np nv b,W.G.kind n= .fn np nv b->Pw (λa o fd=>W.lX n=Z (.ref a)) (λa o fd=>W.h0.get? a=Z o) (λa o fd=>o.data= .func fd)
 gR:∀c i,W.G.kind c= .cls i->Lz λnp nv b=>W.G.kind i= .fn np nv b
 iz':∀c m f,W.G.aX c m=Z f->(∃i,W.G.kind c= .cls i)/\Lz λnp nv b=>W.G.kind f= .fn np nv b
 dC':∀c a,W.G.qF c a=u->∃i,W.G.kind c= .cls i
theorem MA{a b:O}(h: ¬ a=b):hU a b=aE:=rS.mpr λq=>h (AP q)
theorem ek'(a b:O)(x:V)(fs:Y (O×V)):lW (uM fs a x) b=if a=b then Z x else lW fs b:=by
 induction fs with
 | nil=>
  by_cases h:a=b;rw[aZ h,h];exact (aW (λc=>cW c (Z x) aB) (LY b));rw[aR h];exact (aW (λc=>cW c (Z x) aB) (MA h))
 | cons e r ih=>
  show lW (cW (hU e.1 a) ((a,x)::r) (e::uM r a x)) b=if a=b then Z x else cW (hU e.1 b) (Z e.2) (lW r b)
  by_cases h:e.1=a
  ·rw[h,LY]
   show cW (hU a b) (Z x) (lW r b)=_;by_cases hb:a=b;rw[aZ hb,hb,LY];rfl;rw[aR hb,MA hb];rfl
  ·rw[MA h]
   show cW (hU e.1 b) (Z e.2) (lW (uM r a x) b)=_;rw[ih];by_cases hb:a=b;rw[aZ hb,aZ hb,<-hb,MA h];rfl;rw[aR hb,aR hb]
theorem FR.fS{a:O}{x:V}{m:aU->aG aJ}(inj:∀a b x,W.an a=Z x->W.an b=Z x->a=b)(ha:W.an a=Z nm)(hv:cB W S h x y)(r:FR W S h fs m):
  FR W S h (uM fs a x) λz=>if z=nm then Z y else m z:=by
 refine⟨λb nb hb=>?_,λz hz=>?_⟩
 ·rw[ek']
  show Cj W S h _ (if nb=nm then Z y else m nb);by_cases e:a=b;rw[aZ e,aZ (aT (hb.symm.trans (e▸ha)))];exact hv;rw[aR e,aR (λq:nb=nm=>e (inj a b nm ha (q▸hb)))];exact r.1 b nb hb
 ·by_cases e:z=nm
  exact⟨a,e▸ha⟩;exact r.2 z (λq=>hz ((aR e).trans q))
section
variable{P:Prop}{a:O}{v:aJ}{x:V}
theorem St.bc(st:St W S H h){i c:O}{fs:Y (O×V)}{y:aJ}(e:H[i]?=Z (.inst c fs))(r:cB W S h (.ref i) y)
  (k:∀C m a d o,y= .ref a->S[i]?=Z (a,Z d)->h.Inst a C m->W.lX c=Z (.ref C)->h.get? a=Z o->o.cls= .ref C->(∀k,o.data ≠ .cls k)->d≠a->o.dict=Z d->h.Ns1 d m->FR W S h fs m->P):P:=by
 obtain⟨p,hy,hp⟩:=r.cN;obtain⟨C,m,a,d,o,e1,hc,ho,zL,hn,gF,hd,hs,hr⟩:=(st.obj i _ _ e hp).cN;rw[e1]at hp hy;exact k C m a d o hy hp ⟨_,ho,zL,hn,.inr ⟨_,hd,gF,hs⟩⟩ hc ho zL hn gF hd hs hr
theorem fh'(wo:qC W)(r:cB W S h x v):WK v=pure v:=by cases r<;>first|rfl|exact wo.handed _ _ ‹_›
theorem Ci(st:St W S H h){N:bC}{m:aU->aG aJ}(hn:W.h0.Ns N m):h.Ns N m:=let ⟨o,es,ep,e,r⟩:=hn;⟨o,es,ep,st.iH _ _ e,r⟩
theorem St.Xg{i:O}{p:O×Y (O×V)}(wo:qC W)(st:St W S H s.heap)(ha:W.an a=Z nm)(hA:NN H i=Z p)(hd:W.G.qF p.1 a=u)(r:cB W S s.heap (.ref i) y)
  (k:∀C m ad d o N mN,y= .ref ad->S[i]?=Z (ad,Z d)->s.heap.Inst ad C m->W.lX p.1=Z (.ref C)->s.heap.get? ad=Z o->o.cls= .ref C->(∀k,o.data ≠ .cls k)->d≠ad->o.dict=Z d->FR W S s.heap p.2 m->
   (∃q:D2,W.h0.get? C=Z (q.obj C N))->s.heap.Ns N mN->mN "__getattribute__"=aB/\mN "__setattr__"=aB->mN nm=aB/\FN (.type "object") nm=pure aB->P):P:=by
 refine st.bc (gB' hA) r λC m ad d o hy hp hI hc ho zL hn gF ES hs hr=>?_;obtain⟨i,hk⟩:=wo.dC' _ _ hd;obtain⟨C',N,mN,q,K⟩:=wo.cls _ i hk;have e:C'=C:=Cc (aT (K.ga.symm.trans hc));exact k C m ad d o N mN hy hp hI hc ho zL hn gF ES hr ⟨q,e▸K.obj⟩ (Ci st K.ns) ⟨K.gn,K.iP'⟩ (K.dat a nm hd ha)
theorem ay'{r:V}{expr:aC}(wo:qC W)(st:St W S H s.heap)(ha:W.an a=Z nm)(hx:cB W S s.heap x v)(e:HM W.G x a H=Z r):Cg W A s S (getAttr v nm expr) (r,H):=by obtain⟨l,hl,e⟩:=dD e;obtain⟨p,hA,e⟩:=dD e;obtain⟨hd,e⟩:=iY e;rw[yD hl]at hx;refine st.Xg wo ha hA hd hx λC m ad d o N mN e1 _ hI _ _ _ _ _ _ hr hC hN hs hm=>?_;subst e1;obtain⟨q,hC⟩:=hC;have hv:=hr.1 a nm ha;rw[e]at hv;obtain⟨y,hy,hv⟩:=hv.ok;intro Q E k;obtain⟨Bw,g,dr,tk,os⟩:=s;exact load_attr (st.iH _ _ hC) hN hs.1 hm.1 hm.2 hI hy (fh' wo hv) (k.fC st hv)
theorem nc'{z:V}{aN:aJ}(wo:qC W)(st:St W S H s.heap)(ha:W.an a=Z nm)(hx:cB W S s.heap x v)(hz:cB W S s.heap z aN)
  (e:Ia W.G x a z H=Z H') {Q:vH->aV->Prop} {E:aJ->aV->Prop} (k:Pt W s S H' (Q ())):cG (Mo W) A (setAttr v nm aN) Q E s:=by
 obtain⟨l,hl,e⟩:=dD e;obtain⟨p,hA,e⟩:=dD e;obtain⟨hd,e⟩:=iY e;rw[yD hl]at hx;rw[<-aT e]at k;clear e hl;refine st.Xg wo ha hA hd hx λC m ad d o N mN e1 hp hI hc ho zL Rn gF ES hr hC hN hs hm=>?_;subst e1;obtain⟨q,hC⟩:=hC;obtain⟨ns,hns,lY⟩:=wo.names;have hxC:ad≠C:=λz=>by
  have:=st.fresh _ (.CC hp (CF _));rw[show (ad,Z d).1=C from z,hC]at this;exact cI this.symm
 refine store_attr F.store_object (st.iH _ _ hC) hN hs.2 hm.1 hm.2 hxC hI (λh' Gp hI' fA' fL'=>?_) (λy hy=>let ⟨b,hb⟩:=hr.2 y hy;lY _ _ hb) hns;obtain⟨o₁,Hm,c1,c2,c3,c4⟩:=fL' o ho;have Aj:=c4 d ES;have ZZ:h'.Ns1 d (λy=>if y=nm then Z aN else m y):=by
  obtain⟨o2,EX,_,_,hh⟩:=hI';rw[<-aT (Hm.symm.trans EX),Aj]at hh;rcases hh with⟨h1,_⟩|⟨d',h1,_,h3⟩
  exact cI h1.symm;exact aT h1▸h3
 have Yy:=c1.trans zL;refine k _ _ _ (Mv.TX st hp (λb ob hb e=>fA' b ob (λq=>hb (q▸CF _)) (λo₀ dx e1 e2 q=>hb ?_) e) (λtp=>.inst hc Hm Yy (c2▸Rn) gF Aj ZZ (FR.fS wo.inj ha (hz.cV (λ_ _ e=>e) tp) (hr.cV (λ_ _ e=>e) tp))) (λb hb ob e=>?_))
 ·rw[<-aT (ho.symm.trans e1),ES]at e2
  exact aT e2▸q▸jg
 ·rcases Ni hb with h|h
  ·rw[h,Hm]at e;exact aT e▸gp Yy
  ·obtain⟨o2,es,ep,e1,e2,_⟩:=ZZ
   rw[h,e1]at e;exact aT e▸GS e2
end
section
variable{vs:Y aJ}{x:V}
theorem yX.keep{v:V}{Q:aJ->aV->Prop}(r:yX W s S (v,H) Q)(st:St W S H s.heap){h':bS}{tk:O}(hk:∀b o,s.heap.get? b=Z o->h'.get? b=Z o)(hv:cB W S h' v y):Q y {s with heap:=h',toks:=tk}:=
 r S h' tk y (.of_keep st hk) hv
def v6(h:bS)(a:bC)(items:gN aJ):Prop:=oH h a items\/BW h a items
theorem Sd{v:aJ}(wo:qC W)(st:St W S H s.heap)(hx:cB W S s.heap x v)(e:NS W.G x H=Z xs):ED (λa items=>v= .ref a) (λa items=>v6 s.heap a items) (λa items=>cX W S s.heap xs items.toList) (λa items=>items.size<=aF):=by
 cases x with
 | aM ys=>
  obtain⟨a,items,h1,hz,ht,hr⟩:=hx.cN;rw[<-aT e];exact⟨a,items,h1,.inr ht,hr,hr.size▸hz⟩
 | ref i=>
  obtain⟨a,items,h1,_,hl,hr,hz⟩:=st.rL (wG e) hx;exact⟨a,items,h1,.inl hl,hr,hz⟩
 | g n=>
  obtain⟨ys,hk,e⟩:=dD e;obtain⟨_,e⟩:=iY e;obtain⟨a,items,h1,hl,hr,hz⟩:=st.YS wo.toWOk (YN hk) hx;rw[<-aT e];exact⟨a,items,h1,.inl hl,hr,hz⟩
 | _=>exact cI e
theorem Un{y:V}{b:J}(r:cX W S s.heap [x,y] vs)(ha:kK x=Z a)(hb:kK y=Z b):∃t aN,vs=[.int a t,.int b aN]:=by obtain⟨v,v1,rfl,hx,r1⟩:=r.cN;obtain⟨w,v2,rfl,hy,r2⟩:=r1.cN;rw[mW ha]at hx;rw[mW hb]at hy;obtain⟨t,rfl⟩:=hx.cN;obtain⟨aN,rfl⟩:=hy.cN;exact⟨t,aN,by rw[show v2=[] from r2.cN]⟩
theorem cX.eY(r:cX W S h [x] vs):fQ (λv=>vs=[v]) (λv=>cB W S h x v):=by obtain⟨v,v1,rfl,hx,r1⟩:=r.cN;exact⟨v,by rw[show v1=[] from r1.cN],hx⟩
theorem bg{h:bS}:∀{xs:Y J} {vs:Y aJ},cX W S h (xs.map .int) vs->∃ps:Y (J×sZ),vs=ps.map (λp=>.int p.1 p.2)/\ps.map (·.1)=xs
 | [],vs,r=>⟨[],(r.cN:vs=[]),rfl⟩
 | x::xs,vs,r=>by
  obtain⟨v,v1,rfl,hx,hs⟩:=r.cN;obtain⟨t,rfl⟩:=hx.cN;obtain⟨ps,h1,h2⟩:=bg hs;exact⟨(x,t)::ps,aW (JI x t:: ·) h1,aW (x:: ·) h2⟩
theorem rk:∀xs:Y J,Gn xs=xs.sum
 | []=>rfl
 | x::xs=>by
  rw[List.sum_cons,<-rk xs];rfl
theorem eu'{is:Y J}(h:YO G x=Z is):fQ (λn=>x= .g n) (λn=>HV (G.kind n)=Z is):=by
 cases x with
 | g n=>exact⟨n,rfl,h⟩
 | _=>exact cI h
theorem dh'{k:Lo}{r:V×Hp}(wo:qC W)(hh:A.handled=aB)(st:St W S H s.heap)(xO:cX W S s.heap xs vs)(e:Fi W.G k xs H=Z r):Cg W A s S (call (MD k) vs) r:=by
 intro Q E q;cases k with
 | Tr=>exact cI e
 | len=>
  obtain⟨x,rfl,e⟩:=EF e;obtain⟨ys,he,e⟩:=dD e;obtain⟨v,rfl,hx⟩:=xO.eY;obtain⟨a,items,rfl,hl,hr,hz⟩:=Sd wo st hx he;rw[<-aT e,hr.size]at q;have hz:items.size<=16000000:=hz;rcases hl with hl|⟨n,ho⟩
  exact Calls.call_len_list hl.is (ro hz) (q.fC st (.int _ _));exact PySem.P.len_tuple ho (xj.mpr (ro hz)) (q.fC st (.int _ _))
 | min=>
  obtain⟨x,y,rfl,e⟩:=P5 e;obtain⟨a,ha,e⟩:=dD e;obtain⟨b,hb,e⟩:=dD e;obtain⟨t,aN,rfl⟩:=Un xO ha hb;rw[<-aT e]at q;refine min_two_ints hh λh' tk nT=>?_;by_cases hc:b<a;rw[aZ hc]at q ⊢;exact q.keep st nT (.int _ _);rw[aR hc]at q ⊢;exact q.keep st nT (.int _ _)
 | max=>
  obtain⟨x,y,rfl,e⟩:=P5 e;obtain⟨a,ha,e⟩:=dD e;obtain⟨b,hb,e⟩:=dD e;obtain⟨t,aN,rfl⟩:=Un xO ha hb;rw[<-aT e]at q;refine max_two_ints hh λh' tk nT=>?_;by_cases hc:b>a;rw[aZ hc]at q ⊢;exact q.keep st nT (.int _ _);rw[aR hc]at q ⊢;exact q.keep st nT (.int _ _)
 | range=>
  cases xs with
  | nil=>exact cI e
  | cons x r'=>
   obtain⟨a,ha,e⟩:=dD e;cases r' with
   | nil=>
    obtain⟨hb,e⟩:=iY e;obtain⟨v,rfl,hx⟩:=xO.eY;rw[mW ha]at hx;obtain⟨t,rfl⟩:=hx.cN;rw[<-aT e]at q;exact call_range_1 (q.keep st (λb o e=>sV _ e) (.gG (by rw[hb];rfl) ⟨_,_,_,xr ..⟩))
   | cons y r'=>
    obtain⟨z,hz,e⟩:=EF e;obtain⟨b,hb,e⟩:=dD e;obtain⟨hc,e⟩:=iY e;rw[hz]at xO;obtain⟨t,aN,rfl⟩:=Un xO ha hb;rw[<-aT e]at q;exact call_range_2 (q.keep st (λb o e=>sV _ e) (.gG hc ⟨_,_,_,xr ..⟩))
 | list=>
  obtain⟨x,rfl,e⟩:=EF e;obtain⟨ys,he,e⟩:=dD e;obtain⟨v,rfl,hx⟩:=xO.eY;obtain⟨a,items,rfl,hl,hr,hz⟩:=Sd wo st hx he;rw[<-aT e]at q;have mA:ys.length<=aF:=hr.size▸hz;rcases hl with⟨n,ho⟩|⟨n,ho⟩
  ·refine j6 a (.inl rfl) ho rfl rfl (λh' c' h1 h2=>?_) (vA hz)
   have m:=Mv.gd st (h':=h') mA h1 (AN (cE _)) ⟨c',h2⟩ hr;exact q _ _ s.toks _ m.1 m.2
  ·refine j6 a (.inr rfl) ho rfl rfl (λh' c' h1 h2=>?_) (vA hz)
   have m:=Mv.gd st (h':=h') mA h1 (AN (cE _)) ⟨c',h2⟩ hr;exact q _ _ s.toks _ m.1 m.2
 | tuple=>
  obtain⟨x,rfl,e⟩:=EF e;obtain⟨ys,he,e⟩:=dD e;obtain⟨v,rfl,hx⟩:=xO.eY;obtain⟨a,items,rfl,hl,hr,hz⟩:=Sd wo st hx he;rw[<-aT e]at q;have mA:ys.length<=aF:=hr.size▸hz;rcases hl with hl|ht
  ·refine call_tuple_list hl.is (λh' h1=>?_) (vA hz)
   have mk:=Mv.of_keep st h1;have m:=Mv.newTuple (n:=0) mk.st mA (hr.mv st mk);exact q _ _ s.toks _ (mk.trans m.1) m.2
  ·exact call_tuple_same ht.is (q.vT st (.Ip mA ht hr))
 | sum=>
  obtain⟨x,rfl,e⟩:=EF e;obtain⟨is,hi,e⟩:=dD e;obtain⟨v,rfl,hx⟩:=xO.eY;obtain⟨n,rfl,hk⟩:=eu' hi;obtain⟨a,ia,rfl,hl,hr,hz⟩:=st.YS wo.toWOk (YN hk) hx;obtain⟨ps,h1,h2⟩:=bg hr;have e1:ia=intItems ps.toArray:=by
   apply vq;rw[h1];simp [intItems]
  subst e1;subst h2;rw[<-aT e]at q;refine sum_intListG hh hl.is λh' tk t' nT=>?_;have:preSum (numAt ps.toArray) ps.toArray.size=Gn (ps.map (·.1)):=by
   rw[preSum_eq,yy (by simp),rk]
  rw[this];exact q.keep st nT (.int _ _)
end
section
variable{args:Y (aC×rW aJ)}{f:aJ}
variable{E:aJ->aV->Prop}
theorem TypeIs.push{v:aJ}(h:s.TypeIs v T)(o:gQ):d8 {s with heap:=s.heap.push o} v T:=by cases v<;>first|exact h|exact (let ⟨ob,e,hc⟩:=h;⟨ob,sV _ e,hc⟩)
def tE(M:FA)(A:dO)(f:aJ)(s:aV):Prop:=∃k:Keeper,∀(Q:Keeper->aV->Prop) (E:aJ->aV->Prop),Q k s->cG M A (WM f) Q E s
theorem tE.builtin: tE M A (.builtin id) s:=⟨.machine,λ_ _ h=>eF h⟩
theorem tE.type: tE M A (.type T) s:=⟨.machine,λ_ _ h=>eF h⟩
theorem tE.func{a:bC}{o:gQ}{fd:I0}(ho:s.heap.get? a=Z o)(hd:o.data= .func fd):tE M A (.ref a) s:=⟨.frame,λQ E h=>by
 unfold WM;refine bN (wpAny_load ho ?_);rw[hd];exact eF h⟩
theorem QM{pos:cZ}{first:Y aJ}{Q:aJ->aV->Prop}(F7:args.any (·.1)=aE)
  (h:cG M A (WH f u args []) (λx s₁=>A3 (tE M A f s₁) (x.kw=[]) (cG M A (call f (first++x.pos) []) Q E s₁)) E s):
  cG M A (Lh pos f first args []) Q E s:=by
 unfold Lh;refine bN (jN (nG h (λx s₁ h₁=>bN (lP ?_)) λ_ _ x=>x));obtain⟨⟨k,hk⟩,hkw,hc⟩:=h₁;have tail:∀{t:rW aJ},cG M A t Q E s₁->cG M A (t >>= λr=>FK [r] point >>= λ_=>pure r) Q E s₁:=
  λht=>bN (nG ht (λr s₂ hr=>bN (jN (wpAny_point (eF hr)))) λ_ _ x=>x)
 simp only[F7,List.any_nil,Bool.or_false,hkw];refine bN (hk _ _ ?_);cases k<;>simp only
 ·split
  exact tail hc;exact tail (by unfold callMarked;exact wk hc)
 ·split
  exact tail hc;exact tail (by unfold callMarked;exact wk hc)
 exact tail hc;exact tail (JR hc)
theorem Qg{Q:Args->aV->Prop}(F7:args.any (·.1)=aE)(h:cG M A (spliced args) (λvs s'=>Q ⟨vs,[]⟩ s') E s):cG M A (WH f u args []) Q E s:=by
 cases args with
 | nil=>
  unfold WH;show cG M A (spliced [] >>= _) Q E s;exact bN (nG h (λvs s' h'=>bN (eF (jN (bN (eF (bN (eF (eF h')))))))) λ_ _ x=>x)
 | cons x lT=>
  obtain⟨b,x⟩:=x;simp only[VP,wa]at F7;obtain⟨rfl,_⟩:=F7;exact Calls.evalArgs_plain h
def Qf(M:FA)(A:dO)(env:yG)(E:aJ->aV->Prop):Y aK->(Y aJ->aV->Prop)->aV->Prop
 | [],Q,s=>Q [] s
 | e::r,Q,s=>cG M A (eval e env) (λv s₁=>Qf M A env E r (λvs s₂=>Q (v::vs) s₂) s₁) E s
theorem K3{env:yG}{es:Y aK}:∀{Q:Y aJ->aV->Prop} {s:aV},Qf M A env E es Q s->cG M A (spliced (es.map λe=>(aE,eval e env))) Q E s:=by
 induction es with
 | nil=>exact λh=>Calls.spliced_nil h
 | cons e r ih=>exact λh=>Calls.spliced_cons (nG h (λv s₁ h₁=>ih h₁) λ_ _ x=>x)
end
section
variable{prog:PU}{w:jS}{E:aJ->aV->Prop}{env:yG}
theorem Yh{o:aJ}{Q:aC->aV->Prop}(hl:FN (.type T) "__getitem__"=pure (Z (.builtin id)))(hT:s.TypeIs o T)(h:Q aE s):cG M A (getitemInPython o) Q E s:=by rw[getitemInPython_of_ne hT.not_modules];exact bN (s7 hT hl (eF h))
theorem ee'{cz uh:aG aK}{p pos:cZ}{Q:aJ->aV->Prop}
  (h:cG (model prog w) A (eval value env) (λo s₁=>cG (model prog w) A (WI cz env) (λvl s₂=>cG (model prog w) A (WI uh env) (λvu s₃=>yY (λT id=>s₃.TypeIs o T) (λT id=>FN (.type T) "__getitem__"=pure (Z (.builtin id))) (λT id=>cG (model prog w) A (G6 o (.ref s₃.heap.objs.size)) Q E {s₃ with heap:=s₃.heap.push {cls:=.type "slice",data:=.fields #[vl,vu,.none]}})) E s₂) E s₁) E s):
  cG (model prog w) A (eval (.Subscript value (.Slice cz uh aB p) pos) env) Q E s:=by
 rw[i8];refine bN (nG h (λo s₁ h₁=>bN (jN (wpAny_Slice (nG h₁ (λvl s₂ h₂=>nG h₂ (λvu s₃ h₃=>?_) λ_ _ e=>e) λ_ _ e=>e)))) λ_ _ x=>x);rw[WJ];refine eF (bN (lP ?_));obtain⟨T,id,hT0,hl,hg⟩:=h₃;have hT:d8 {s₃ with heap:=s₃.heap.push {cls:=.type "slice",data:=.fields #[vl,vu,.none]}} o T:=TypeIs.push hT0 _;refine bN (Yh hl hT ?_);exact bN (JR (nG hg (λr s₃ h₃=>bN (WS (eF h₃))) λ_ _ x=>x))
end
section
variable{Q:aJ->aV->Prop}{e o:aK}{env:yG}{f:aK->aK->aK->Y aK->oG->aC}{g:aU->aC}{pos:cZ}{q:Prop}{t:Type}
set_option genCtorIdx false
set_option backward.match.sparseCases false
theorem dA{p:Prop}(h:aE=u):p:=nomatch h
noncomputable def bq:V->aC
 | .none=>u
 | _=>aE
noncomputable def gE'(a:aC):V->aC
 | .bool b=>a==b
 | _=>aE
noncomputable def gH'(a:J):V->aC
 | .int b=>a==b
 | _=>aE
noncomputable def gK'(a:lA):V->aC
 | .str b=>a==b
 | _=>aE
noncomputable def isG(a:O):V->aC
 | .g b=>a==b
 | _=>aE
noncomputable def onT(f:Y V->aC):V->aC
 | .aM ys=>f ys
 | _=>aE
noncomputable def hdV(f:V->Y V->aC):Y V->aC
 | y::ys=>f y ys
 | []=>aE
mutual
def vB:V->V->aC
 | .none=>bq
 | .bool a=>gE' a
 | .int a=>gH' a
 | .str a=>gK' a
 | .aM xs=>onT λys=>Oi xs ys
 | .g a=>isG a
 | .ref _=>λ_=>aE
 | .gG _ _=>λ_=>aE
def Oi:Y V->Y V->aC
 | [],b=>b.isEmpty
 | x::xs,b=>hdV (λy ys=>vB x y&&Oi xs ys) b
end
mutual
theorem ui:∀{a b:V},vB a b=u->a=b
 | .none,b,h=>by cases b<;>first|exact dA h|rfl
 | .bool a,b,h=>by cases b<;>first|exact dA h|exact aW V.bool (eq_of_beq h)
 | .int a,b,h=>by cases b<;>first|exact dA h|exact aW V.int (eq_of_beq h)
 | .str a,b,h=>by cases b<;>first|exact dA h|exact aW V.str (eq_of_beq h)
 | .aM xs,b,h=>by cases b<;>first|exact dA h|exact aW V.aM (uk h)
 | .g a,b,h=>by cases b<;>first|exact dA h|exact aW V.g (eq_of_beq h)
 | .ref _,_,h=>dA h
 | .gG _ _,_,h=>dA h
theorem uk:∀{a b:Y V},Oi a b=u->a=b
 | [],b,h=>by cases b with
  | nil=>rfl
  | cons=>exact dA h
 | x::xs,b,h=>by cases b with
  | nil=>exact dA h
  | cons y ys=>
   have h':=AM.mp (show (vB x y&&Oi xs ys)=u from h);rw[ui h'.1,uk h'.2]
end
structure KC where
 kn:Y (aU×jM)
 vn:Y aU
 gl:aU->aG V
 an:O->aG aU
noncomputable def cNo:CQ->aC
 | .none=>u
 | _=>aE
noncomputable def cBo(a:aC):CQ->aC
 | .bool b=>a==b
 | _=>aE
noncomputable def cIn(a:J):CQ->aC
 | .int b=>a==b
 | _=>aE
noncomputable def cSt(a:lA):CQ->aC
 | .str b=>bR a==b
 | _=>aE
def Xd:V->CQ->aC
 | .none=>cNo
 | .bool a=>cBo a
 | .int a=>cIn a
 | .str a=>cSt a
 | .aM _=>λ_=>aE
 | .ref _=>λ_=>aE
 | .g _=>λ_=>aE
 | .gG _ _=>λ_=>aE
def Mg(K:KC)(v:V)(x:aU):aC:=match K.gl x with
 | some v'=>vB v v'
 | none=>aE
noncomputable def ID(x:aU):aC:= !(x==("__debug__":aU))
noncomputable def B5:aK->aC
 | .Set _ _ _=>u
 | _=>aE
noncomputable def oN(kn names:Y (aU×jM)):Y (aU×jM):=
 names.map λ(n,k)=>if (k== .free&&u&&kn.lookup n==Z .cell) then (n,.cell) else (n,k)
def MM(K:KC)(scope:oG)(x:aU)(dN:O)(iter:aK):aC:=
 scope.kind== .function&&scope.names.all (λy=>y.2 != .cell)&&scope.names.all (λy=>y.2 != .local||(scope.names.lookup y.1==Z .local&&(y.1==x || !K.vn.contains y.1)))&&scope.names.lookup x==Z .local &&
  K.vn[dN]?==Z x&&scope.names.all (λy=>y.2 != .free||K.kn.lookup y.1==Z .cell) && !B5 iter
noncomputable def Nn{α:Type}(b:aC):Y α->aC
 | []=>b
 | _::_=>aE
theorem TQ{l:Y α}{P:Y α->Prop}(h:Nn b l=u)(g:b=u->P []):P l:=by
 cases l with
 | nil=>exact g h
 | cons=>exact dA h
def Te{α β:Type}(f:α->β->aC):Y α->Y β->aC
 | x::r,y::r'=>Nn (Nn (f x y) r') r
 | _,_=>aE
theorem iq{f:α->β->aC}{xs:Y α}{ys:Y β}{P:Y α->Y β->Prop}(h:Te f xs ys=u)(g:∀x y,f x y=u->P [x] [y]):P xs ys:=by
 cases xs with
 | nil=>exact dA h
 | cons x r=>
  cases ys with
  | nil=>exact dA h
  | cons y r'=>exact TQ (P:=λr=>P (x::r) (y::r')) h λh=>TQ (P:=λr'=>P [x] (y::r')) h (g x y)
def ir{α β:Type}(f:α->α->β->β->aC):Y α->Y β->aC
 | x::r,y::r'=>Te (f x · y ·) r r'
 | _,_=>aE
theorem jc'{f:α->α->β->β->aC}{xs:Y α}{ys:Y β}{P:Y α->Y β->Prop}(h:ir f xs ys=u)(g:∀x x' y y',f x x' y y'=u->P [x,x'] [y,y']):P xs ys:=by
 cases xs with
 | nil=>exact dA h
 | cons x r=>
  cases ys with
  | nil=>exact dA h
  | cons y r'=>exact iq (P:=λr r'=>P (x::r) (y::r')) h λx' y'=>g x x' y y'
noncomputable def gL':JH->aC
 | .USub=>u
 | _=>aE
noncomputable def bu:JH->aC
 | .Not=>u
 | _=>aE
noncomputable def bh:Ix->aC
 | .And=>u
 | .Or=>aE
inductive XV where
 | no
 | const(c:CQ)
 | name(x:aU)
 | bO(l:aK)(o:FG)(r:aK)
 | un(o:JH)(x:aK)
 | bool(o:Ix)(vs:Y aK)
 | bJ(l:aK)(os:Y CmpOp)(rs:Y aK)
 | ite(c t f:aK)
 | aM(es:Y aK)
 | list(es:Y aK)
 | dict(ks:Y (aG aK))(vs:Y aK)
 | bI(o:aK)(x:aU)(p:cZ)
 | aY(o i:aK)
 | sl(l aN:aG aK)
 | call(g:aK)(as:Y aK)(p:cZ)
 | comp(dY t it:aK)(ifs:Y aK)(sc:oG)
variable{v:XV}
noncomputable def iO'(v:XV):Y Keyword->XV
 | []=>v
 | _::_=>.no
noncomputable def iQ'(v:XV):aG aK->XV
 | none=>v
 | some _=>.no
def jA'(f:VG->XV):Y VG->XV
 | []=>.no
 | g::r=>match r with
  | []=>cW (g.is_async==0) (f g) .no
  | _::_=>.no
def vw:aK->XV
 | .Constant c _ _=>.const c
 | .Name x _=>.name x
 | .BinOp l o r _=>.bO l o r
 | .UnaryOp o x _=>.un o x
 | .BoolOp o vs _=>.bool o vs
 | .Compare l os rs _=>.bJ l os rs
 | .IfExp c t e _=>.ite c t e
 | .Tuple es _ _=>.aM es
 | .List es _=>.list es
 | .Dict ks vs _=>.dict ks vs
 | .Attribute o x p=>.bI o x p
 | .Subscript o i _=>.aY o i
 | .Slice l aN o _=>iQ' (.sl l aN) o
 | .Call g as ks p=>iO' (.call g as p) ks
 | .ListComp dY gs sc _=>jA' (λg=>.comp dY g.target g.iter g.ifs sc) gs
 | _=>.no
def XV.is(e:aK):XV->Prop
 | .no=>True
 | .const c=>EC λk p=>e= .Constant c k p
 | .name x=>jO λp=>e= .Name x p
 | .bO l o r=>jO λp=>e= .BinOp l o r p
 | .un o x=>jO λp=>e= .UnaryOp o x p
 | .bool o vs=>jO λp=>e= .BoolOp o vs p
 | .bJ l os rs=>jO λp=>e= .Compare l os rs p
 | .ite c t f=>jO λp=>e= .IfExp c t f p
 | .aM es=>EC λk p=>e= .Tuple es k p
 | .list es=>jO λp=>e= .List es p
 | .dict ks vs=>jO λp=>e= .Dict ks vs p
 | .bI o x p=>e= .Attribute o x p
 | .aY o i=>jO λp=>e= .Subscript o i p
 | .sl l aN=>jO λp=>e= .Slice l aN aB p
 | .call g as p=>e= .Call g as [] p
 | .comp dY t it ifs sc=>jO λp=>e= .ListComp dY [⟨t,it,ifs,0⟩] sc p
theorem oA(e:aK):(vw e).is e:=by
 cases e with
 | Constant|Tuple=>exact⟨_,_,rfl⟩
 | Name|BinOp|UnaryOp|BoolOp|Compare|IfExp|List|Dict|Subscript=>exact⟨_,rfl⟩
 | Attribute=>exact rfl
 | Slice l aN o p=>cases o with
  | none=>exact⟨_,rfl⟩
  | some=>exact trivial
 | Call g as ks p=>cases ks with
  | nil=>exact rfl
  | cons=>exact trivial
 | ListComp dY gs sc p=>cases gs with
  | nil=>exact trivial
  | cons g r=>cases r with
   | cons=>exact trivial
   | nil=>
    show (cW (g.is_async==0) _ _:XV).is _;cases h:g.is_async==0 with
    | false=>exact trivial
    | true=>
     obtain⟨t,it,ifs,k⟩:=g;have e:k=0:=eq_of_beq h;subst e;exact⟨_,rfl⟩
 | _=>exact trivial
noncomputable def gI':XV->aC
 | .name _=>u
 | _=>aE
noncomputable def ns1:Y aK->aC
 | []=>aE
 | _::_=>u
def nsV:XV->aC
 | .name _=>u
 | .bI _ _ _=>u
 | .aY _ _=>u
 | .dict _ _=>u
 | .call g as _=>gI' (vw g)&&ns1 as
 | _=>aE
def DR(e:aK):aC:=nsV (vw e)
theorem v9{x:rW aJ}(h:DR o=u):j4 o bI env x=x:=by
 have hi:=oA o;unfold DR at h;revert h hi;cases vw o with
 | name|aY|dict=>intro _ hi;obtain⟨p,rfl⟩:=hi;rfl
 | bI=>intro _ hi;rw[show o=_ from hi];rfl
 | call g as p=>
  cases as with
  | nil=>exact λh=>dA (aO h).2
  | cons a r=>
   intro h hi;have h1:=(aO h).1;rw[show o=_ from hi];clear h hi;have hg:=oA g;revert h1 hg;cases vw g with
   | name x=>intro _ hg;obtain⟨p,rfl⟩:=hg;rfl
   | _=>exact dA
 | _=>exact dA
theorem Wx{E:aJ->aV->Prop}(h:DR o=u)(hq:cG M A (eval o env) Q E s):cG M A (j4 o bI env (eval o env)) Q E s:=(v9 h).symm▸hq
noncomputable def or':XV->aC
 | .no=>u
 | _=>aE
def Sa(e:aK):aC:=or' (vw e)
def wJ(es:Y aK):aC:=es.all λe=> !Sa e
noncomputable def slV:XV->aC
 | .no=>u
 | .sl _ _=>u
 | _=>aE
def DF(e:aK):aC:=slV (vw e)
noncomputable def ds':XV->aC
 | .no=>u
 | .comp _ _ _ _ _=>u
 | _=>aE
def xQ(e:aK):aC:=ds' (vw e)
theorem mG{p:t->Prop}(h:jO p)(f:∀x,p x->q):q:=jO.rec f h
theorem E0{aN:Type}{p:t->aN->Prop}(h:EC p)(f:∀x y,p x y->q):q:=EC.rec f h
theorem op'{r:Y aK}(h:(!Sa e)=u):FM (e::r) env=(aE,eval e env)::FM r env:=by
 have hi:=oA e;unfold Sa at h;revert h hi;cases vw e with
 | no=>exact dA
 | const|aM=>exact λ_ hi=>E0 hi λ_ _ e=>e▸rfl
 | bI|call=>exact λ_ hi=>(show e=_ from hi)▸rfl
 | _=>exact λ_ hi=>mG hi λ_ e=>e▸rfl
theorem oM'{o i:aJ}(h:DF oO=aE):subscripted oO aE o i=operate [o,i] (G6 o i):=by
 have hi:=oA oO;unfold DF at h;revert h hi;cases vw oO with
 | no|sl=>exact λh=>dA h.symm
 | const|aM=>exact λ_ hi=>E0 hi λ_ _ e=>e▸rfl
 | bI|call=>exact λ_ hi=>(show oO=_ from hi)▸rfl
 | _=>exact λ_ hi=>mG hi λ_ e=>e▸rfl
theorem Ob{t:aG aK}{l:O}(h:xQ value=aE):Ln value t l env=pure aE:=by
 have hi:=oA value;unfold xQ at h;revert h hi;cases vw value with
 | no|comp=>exact λh=>dA h.symm
 | const|aM=>exact λ_ hi=>E0 hi λ_ _ e=>e▸rfl
 | bI|call=>exact λ_ hi=>(show value=_ from hi)▸rfl
 | _=>exact λ_ hi=>mG hi λ_ e=>e▸rfl
theorem oq'(env:yG){es:Y aK}(h:wJ es=u):FM es env=es.map λe=>(aE,eval e env):=by
 induction es with
 | nil=>rfl
 | cons e r ih=>rw[yN,<-ih (aO h).2,op' (aO h).1]
theorem Fd(pos:cZ)(env:yG){es:Y aK}(h:wJ es=u):JJ pos (FM es env)=es.map λe=>(aE,eval e env):=by rw[oq' env h];unfold JJ;rw[Gy];rfl
theorem L9(pos:cZ)(env:yG){es:Y aK}(h:wJ es=u):(JJ pos (FM es env)).any (·.1)=aE:=by rw[Fd pos env h,xw];exact xu.mpr λ_ _=>E1
section
variable{prog:PU}{w:jS}{E:aJ->aV->Prop}
theorem ef'(hs:DF oO=aE)
  (h:cG (model prog w) A (eval value env) (λo s₁=>cG (model prog w) A (eval oO env) (λi s₂=>SubscriptOn (model prog w) A o i Q E s₂) E s₁) E s):
  cG (model prog w) A (eval (.Subscript value oO pos) env) Q E s:=by
 rw[i8];refine bN (nG h (λo s₁ h₁=>bN (jN (nG h₁ (λi s₂ h₂=>bN (lP ?_)) λ_ _ x=>x))) λ_ _ x=>x);obtain⟨T,id,hl,hT,hg⟩:=h₂;refine bN (Yh hl hT ?_);rw[oM' hs];exact bN (JR (nG hg (λr s₃ h₃=>bN (WS (eF h₃))) λ_ _ x=>x))
theorem ec'(hn:DR value=u)
  (h:cG (model prog w) A (eval value env) (λo s₁=>cG (model prog w) A (getAttr o bI u) Q E s₁) E s):cG (model prog w) A (eval (.Attribute value bI pos) env) Q E s:=by
 rw[arm_eval_Attribute];refine bN (Wx hn (nG h (λo s₁ h₁=>bN (lP (bN (jN (nG h₁ (λr s₂ h₂=>?_) λ_ _ x=>x))))) λ_ _ x=>x));exact bN (WS (eF h₂))
end
def IE:E->aC
 | .eT v=>bq v
 | _=>aE
theorem iR'{e:E}{P:E->Prop}(h:IE e=u)(g:P (.eT .none)):P e:=by
 cases e with
 | eT v=>cases v<;>first|exact dA h|exact g
 | _=>exact dA h
noncomputable def XG:XV->aC
 | .name _=>u
 | .aY _ _=>u
 | _=>aE
noncomputable def IJ(f:aK->aC)(g:aC):aG aK->aC
 | none=>g
 | some x=>f x
def RM(f:aK->aC):Y aK->aC
 | x::r=>Nn (f x) r
 | []=>aE
theorem RN{f:aK->aC}{l:Y aK}{P:Y aK->Prop}(h:RM f l=u)(g:∀x,f x=u->P [x]):P l:=by
 cases l with
 | nil=>exact dA h
 | cons x r=>exact TQ (P:=λr=>P (x::r)) h (g x)
noncomputable def MO(f:aK->Y aK->aC):Y aK->aC
 | x::xs=>f x xs
 | []=>aE
theorem QR{f:aK->Y aK->aC}{l:Y aK}{P:Y aK->Prop}(h:MO f l=u)(g:∀x xs,f x xs=u->P (x::xs)):P l:=by
 cases l with
 | nil=>exact dA h
 | cons x xs=>exact g x xs h
noncomputable def Xa(f:aK->Y (aG aK)->aC):Y (aG aK)->aC
 | []=>aE
 | x::xs=>match x with
  | some x=>f x xs
  | none=>aE
theorem dA'{f:aK->Y (aG aK)->aC}{l:Y (aG aK)}{P:Y (aG aK)->Prop}(h:Xa f l=u)(g:∀x xs,f x xs=u->P (Z x::xs)):P l:=by
 cases l with
 | nil=>exact dA h
 | cons x xs=>cases x with
  | none=>exact dA h
  | some x=>exact g x xs h
noncomputable def Tg(f:CQ->aC)(g:aU->aC):XV->aC
 | .const c=>f c
 | .name x=>g x
 | _=>aE
theorem jl'{f:CQ->aC}{P:XV->Prop}(h:Tg f g v=u)(a:∀c,f c=u->P (.const c))(b:∀x,g x=u->P (.name x)):P v:=by cases v<;>first|exact dA h|exact a _ h|exact b _ h
theorem pS'{f:CQ->aC}{P:aK->Prop}(h:Tg f g (vw e)=u)(a:∀c k p,f c=u->P (.Constant c k p))(b:∀x p,g x=u->P (.Name x p)):P e:=
 jl' (P:=λv=>v.is e->P e) h (λc h1 i=>E0 i λk p i=>i▸a c k p h1) (λx h1 i=>mG i λp i=>i▸b x p h1) (oA e)
noncomputable def xU(f:aU->aC):XV->aC
 | .name x=>f x
 | _=>aE
theorem jt'{f:aU->aC}{P:XV->Prop}(h:xU f v=u)(g:∀x,f x=u->P (.name x)):P v:=by cases v<;>first|exact dA h|exact g _ h
theorem BH{f:aU->aC}{e:aK}{P:aK->Prop}(h:xU f (vw e)=u)(gg:∀x p,f x=u->P (.Name x p)):P e:=
 jt' (P:=λv=>v.is e->P e) h (λx h1 hi=>mG hi λp hi=>hi▸gg x p h1) (oA e)
noncomputable def Tf(f:aK->FG->aK->aC):XV->aC
 | .bO l o r=>f l o r
 | _=>aE
theorem jg'{f:aK->FG->aK->aC}{P:XV->Prop}(h:Tf f v=u)(g:∀l o r,f l o r=u->P (.bO l o r)):P v:=by cases v<;>first|exact dA h|exact g _ _ _ h
theorem pR'{f:aK->FG->aK->aC}{P:aK->Prop}(h:Tf f (vw e)=u)(gg:∀l o r p,f l o r=u->P (.BinOp l o r p)):P e:=
 jg' (P:=λv=>v.is e->P e) h (λl o r h1 hi=>mG hi λp hi=>hi▸gg l o r p h1) (oA e)
noncomputable def Ny(f:JH->aK->aC):XV->aC
 | .un o x=>f o x
 | _=>aE
theorem jx'{f:JH->aK->aC}{P:XV->Prop}(h:Ny f v=u)(g:∀o x,f o x=u->P (.un o x)):P v:=by cases v<;>first|exact dA h|exact g _ _ h
theorem uo{f:JH->aK->aC}{P:aK->Prop}(h:Ny f (vw e)=u)(gg:∀o x p,f o x=u->P (.UnaryOp o x p)):P e:=
 jx' (P:=λv=>v.is e->P e) h (λo x h1 hi=>mG hi λp hi=>hi▸gg o x p h1) (oA e)
noncomputable def Nu(f:Ix->Y aK->aC):XV->aC
 | .bool o vs=>f o vs
 | _=>aE
theorem jh'{f:Ix->Y aK->aC}{P:XV->Prop}(h:Nu f v=u)(g:∀o vs,f o vs=u->P (.bool o vs)):P v:=by cases v<;>first|exact dA h|exact g _ _ h
theorem uj{f:Ix->Y aK->aC}{P:aK->Prop}(h:Nu f (vw e)=u)(gg:∀o vs p,f o vs=u->P (.BoolOp o vs p)):P e:=
 jh' (P:=λv=>v.is e->P e) h (λo vs h1 hi=>mG hi λp hi=>hi▸gg o vs p h1) (oA e)
noncomputable def Nv(f:aK->Y CmpOp->Y aK->aC):XV->aC
 | .bJ l os rs=>f l os rs
 | _=>aE
theorem jj'{f:aK->Y CmpOp->Y aK->aC}{P:XV->Prop}(h:Nv f v=u)(g:∀l os rs,f l os rs=u->P (.bJ l os rs)):P v:=by cases v<;>first|exact dA h|exact g _ _ _ h
theorem ul{f:aK->Y CmpOp->Y aK->aC}{P:aK->Prop}(h:Nv f (vw e)=u)(gg:∀l os rs p,f l os rs=u->P (.Compare l os rs p)):P e:=
 jj' (P:=λv=>v.is e->P e) h (λl os rs h1 hi=>mG hi λp hi=>hi▸gg l os rs p h1) (oA e)
noncomputable def Tk(f:aK->aK->aK->aC):XV->aC
 | .ite c t x=>f c t x
 | _=>aE
theorem jr'{f:aK->aK->aK->aC}{P:XV->Prop}(h:Tk f v=u)(g:∀c t x,f c t x=u->P (.ite c t x)):P v:=by cases v<;>first|exact dA h|exact g _ _ _ h
theorem pU'{f:aK->aK->aK->aC}{P:aK->Prop}(h:Tk f (vw e)=u)(gg:∀c t x p,f c t x=u->P (.IfExp c t x p)):P e:=
 jr' (P:=λv=>v.is e->P e) h (λc t x h1 hi=>mG hi λp hi=>hi▸gg c t x p h1) (oA e)
noncomputable def II(f:Y aK->aC):XV->aC
 | .aM es=>f es
 | _=>aE
theorem jw'{f:Y aK->aC}{P:XV->Prop}(h:II f v=u)(g:∀es,f es=u->P (.aM es)):P v:=by cases v<;>first|exact dA h|exact g _ h
theorem Ol{f:Y aK->aC}{e:aK}{P:aK->Prop}(h:II f (vw e)=u)(gg:∀es k p,f es=u->P (.Tuple es k p)):P e:=
 jw' (P:=λv=>v.is e->P e) h (λes h1 hi=>E0 hi λk p hi=>hi▸gg es k p h1) (oA e)
noncomputable def Tn(f:Y aK->aC):XV->aC
 | .list es=>f es
 | _=>aE
theorem js'{f:Y aK->aC}{P:XV->Prop}(h:Tn f v=u)(g:∀es,f es=u->P (.list es)):P v:=by cases v<;>first|exact dA h|exact g _ h
theorem pV'{f:Y aK->aC}{P:aK->Prop}(h:Tn f (vw e)=u)(gg:∀es p,f es=u->P (.List es p)):P e:=
 js' (P:=λv=>v.is e->P e) h (λes h1 hi=>mG hi λp hi=>hi▸gg es p h1) (oA e)
noncomputable def Th(f:Y (aG aK)->Y aK->aC):XV->aC
 | .dict ks vs=>f ks vs
 | _=>aE
theorem jm'{f:Y (aG aK)->Y aK->aC}{P:XV->Prop}(h:Th f v=u)(g:∀ks vs,f ks vs=u->P (.dict ks vs)):P v:=by cases v<;>first|exact dA h|exact g _ _ h
theorem pT'{f:Y (aG aK)->Y aK->aC}{P:aK->Prop}(h:Th f (vw e)=u)(gg:∀ks vs p,f ks vs=u->P (.Dict ks vs p)):P e:=
 jm' (P:=λv=>v.is e->P e) h (λks vs h1 hi=>mG hi λp hi=>hi▸gg ks vs p h1) (oA e)
noncomputable def Kj(f:aK->aU->cZ->aC):XV->aC
 | .bI o x p=>f o x p
 | _=>aE
theorem je'{f:aK->aU->cZ->aC}{P:XV->Prop}(h:Kj f v=u)(g:∀o x p,f o x p=u->P (.bI o x p)):P v:=by cases v<;>first|exact dA h|exact g _ _ _ h
theorem Uu{f:aK->aU->cZ->aC}{e:aK}{P:aK->Prop}(h:Kj f (vw e)=u)(gg:∀o x p,f o x p=u->P (.Attribute o x p)):P e:=
 je' (P:=λv=>v.is e->P e) h (λo x p h1 hi=>(show e=_ from hi)▸gg o x p h1) (oA e)
noncomputable def GZ(f:aK->aK->aC):XV->aC
 | .aY o i=>f o i
 | _=>aE
theorem jp'{f:aK->aK->aC}{P:XV->Prop}(h:GZ f v=u)(g:∀o i,f o i=u->P (.aY o i)):P v:=by cases v<;>first|exact dA h|exact g _ _ h
theorem LF{f:aK->aK->aC}{e:aK}{P:aK->Prop}(h:GZ f (vw e)=u)(gg:∀o i p,f o i=u->P (.Subscript o i p)):P e:=
 jp' (P:=λv=>v.is e->P e) h (λo i h1 hi=>mG hi λp hi=>hi▸gg o i p h1) (oA e)
noncomputable def Nx(f:aG aK->aG aK->aC):XV->aC
 | .sl l aN=>f l aN
 | _=>aE
theorem jv'{f:aG aK->aG aK->aC}{P:XV->Prop}(h:Nx f v=u)(g:∀l aN,f l aN=u->P (.sl l aN)):P v:=by cases v<;>first|exact dA h|exact g _ _ h
theorem um{f:aG aK->aG aK->aC}{e:aK}{P:aK->Prop}(h:Nx f (vw e)=u)(gg:∀l aN p,f l aN=u->P (.Slice l aN aB p)):P e:=
 jv' (P:=λv=>v.is e->P e) h (λl aN h1 hi=>mG hi λp hi=>hi▸gg l aN p h1) (oA e)
noncomputable def GY(f:aK->Y aK->cZ->aC):XV->aC
 | .call g as p=>f g as p
 | _=>aE
theorem iu{f:aK->Y aK->cZ->aC}{P:XV->Prop}(h:GY f v=u)(g:∀g as p,f g as p=u->P (.call g as p)):P v:=by cases v<;>first|exact dA h|exact g _ _ _ h
theorem Oj{f:aK->Y aK->cZ->aC}{e:aK}{P:aK->Prop}(h:GY f (vw e)=u)(gg:∀g as p,f g as p=u->P (.Call g as [] p)):P e:=
 iu (P:=λv=>v.is e->P e) h (λg as p h1 hi=>(show e=_ from hi)▸gg g as p h1) (oA e)
noncomputable def Km(f:aK->aK->aK->Y aK->oG->aC):XV->aC
 | .comp dY t it ifs sc=>f dY t it ifs sc
 | _=>aE
theorem jk'{P:XV->Prop}(h:Km f v=u)(g:∀dY t it ifs sc,f dY t it ifs sc=u->P (.comp dY t it ifs sc)):P v:=by cases v<;>first|exact dA h|exact g _ _ _ _ _ h
theorem Uv{P:aK->Prop}(h:Km f (vw e)=u)(gg:∀dY t it ifs sc p,f dY t it ifs sc=u->P (.ListComp dY [⟨t,it,ifs,0⟩] sc p)):P e:=
 jk' (P:=λv=>v.is e->P e) h (λdY t it ifs sc h1 hi=>mG hi λp hi=>hi▸gg dY t it ifs sc p h1) (oA e)
mutual
def eK(kn:Y (aU×jM))(K:KC):E->XV->aC
 | .eT v,pe=>Tg (λc=>Xd v c) (λx=>ID x&&kn.lookup x==Z .globalImplicit&&Mg K v x) pe
 | .D i,pe=>xU (λx=>ID x&&K.vn[i]?==Z x&&(kn.lookup x==Z .local||kn.lookup x==Z .cell)) pe
 | .bO op a b,pe=>Tf (λl o r=>o==op&&eK kn K a (vw l)&&eK kn K b (vw r)) pe
 | .neg a,pe=>Ny (λo x=>gL' o&&eK kn K a (vw x)) pe
 | .not a,pe=>Ny (λo x=>bu o&&eK kn K a (vw x)) pe
 | .and es,pe=>Nu (λo vs=>bh o&&Eu kn K es vs) pe
 | .or es,pe=>Nu (λo vs=> !bh o&&Eu kn K es vs) pe
 | .bJ op a b,pe=>Nv (λl os rs=>Te (λo r=>o==op && !behindInMarks o r&&eK kn K a (vw l)&&eK kn K b (vw r)) os rs) pe
 | .xE A0 uU a b c,pe=>Nv (λl os rs=>ir (λo1 o2 r1 r2=>o1==A0&&o2==uU && !behindInMarks o2 r2&&eK kn K a (vw l)&&eK kn K b (vw r1)&&eK kn K c (vw r2)) os rs) pe
 | .ite c t f,pe=>Tk (λc' t' f'=>eK kn K c (vw c')&&eK kn K t (vw t')&&eK kn K f (vw f')) pe
 | .aM es,pe=>II (λes'=>wJ es'&&Eu kn K es es') pe
 | .list es,pe=>Tn (λes'=>wJ es'&&Eu kn K es es') pe
 | .dict bX,pe=>Th (λB6 vals=>decide (B6.length<=15)&&decide (B6.length=vals.length)&&Ul kn K bX B6 vals) pe
 | .bI o a,pe=>Kj (λo' x _=>DR o'&&K.an a==Z x&&eK kn K o (vw o')) pe
 | .aY o i,pe=>GZ (λo' i'=> !DF i'&&eK kn K o (vw o')&&eK kn K i (vw i')) pe
 | .oO o lo hi,pe=>GZ (λo' s=>Nx (λl aN=>eK kn K o (vw o')&&IJ (λx=>eK kn K lo (vw x)) (IE lo) l&&IJ (λx=>eK kn K hi (vw x)) (IE hi) aN) (vw s)) pe
 | .call f args,pe=>GY (λf' kC _=>XG (vw f')&&wJ kC&&decide (kC.length<30)&&eK kn K f (vw f')&&Eu kn K args kC) pe
 | .aX o m args,pe=>GY (λf' kC p=>Kj (λo' x ap=>DR o'&&ap.endLine==p.line&&wJ kC&&decide (kC.length<29)&&K.an m==Z x&&eK kn K o (vw o')&&Eu kn K args kC) (vw f')) pe
 | .comp dY dN it,pe=>Km (λiX t dZ ifs scope=>xU (λx=>ifs.isEmpty&&MM {K with kn:=kn} scope x dN dZ&&eK kn K it (vw dZ)&&eK (oN kn scope.names) K dY (vw iX)) (vw t)) pe
 | .Bd dY dN it c,pe=>Km (λiX t dZ ifs scope=>xU (λx=>RM (λc'=>MM {K with kn:=kn} scope x dN dZ&&eK kn K it (vw dZ)&&eK (oN kn scope.names) K dY (vw iX)&&eK (oN kn scope.names) K c (vw c')) ifs) (vw t)) pe
def Eu(kn:Y (aU×jM))(K:KC):Y E->Y aK->aC
 | [],l=>l.isEmpty
 | e::es,l=>MO (λx xs=>eK kn K e (vw x)&&Eu kn K es xs) l
def Ul(kn:Y (aU×jM))(K:KC):Y E->Y (aG aK)->Y aK->aC
 | [],ks,vs=>ks.isEmpty&&vs.isEmpty
 | [_],_,_=>aE
 | k::v::r,ks,vs=>Xa (λk' ks=>MO (λv' vs=>eK kn K k (vw k')&&eK kn K v (vw v')&&Ul kn K r ks vs) vs) ks
end
end
variable{K:KC}{P:XV->Prop}
structure FrOk(W:Wd)(S:Mp)(h:bS)(K:KC)(env:fM)(I:cA):Prop where
 kind:env.scope.kind= .function
 kn:env.scope.names=K.kn
 C3:env.globals=3
 blt:env.builtins=0
 ns:∃m,h.Ns env.locals m/\∀(i:O) x v,K.vn[i]?=Z x->I[i]?=Z (Z v)->K.kn.lookup x=Z .local->∃y,m x=Z y/\cB W S h v y
 cell:∀x,K.kn.lookup x=Z .cell->yY (λc _=>env.cells.lookup x=Z c) (λc aN=>h.IsCell c aN) (λ_ aN=>∀(i:O) v,K.vn[i]?=Z x->I[i]?=Z (Z v)->∃y,aN=Z y/\cB W S h v y)
 GN: ¬ gD S env.locals/\W.h0.get? env.locals=aB
 uJ:∀x c,env.cells.lookup x=Z c->¬ gD S c/\W.h0.get? c=aB/\c≠env.locals/\∃o,h.get? c=Z o
theorem Ns.has{a:bC}{m:aU->aG aJ}(x:h.Ns a m):∃o,h.get? a=Z o:=let ⟨o,_,_,e,_⟩:=x;⟨o,e⟩
theorem Ns.lL{a:bC}{m:aU->aG aJ}(x:h.Ns a m)(hk:∀o,h.get? a=Z o->h'.get? a=Z o):h'.Ns a m:=let ⟨o,es,ep,e,r⟩:=x;⟨o,es,ep,hk o e,r⟩
theorem IsCell.lL{a:bC}(x:h.IsCell a aN)(hk:∀o,h.get? a=Z o->h'.get? a=Z o):h'.IsCell a aN:=let ⟨o,e,r⟩:=x;⟨o,hk o e,r⟩
theorem Mv.jA(m:Mv W eD S h μ' H' h'){a:bC}{o:gQ}(ha: ¬ gD S a)(e:h.get? a=Z o): ¬ gD μ' a:=λq=>ha (m.new a o q e)
theorem FrOk.fg(st:St W S H h)(f:FrOk W S h K env I)(m:Mv W eD S h μ' H' h')(hX:∀a o,eD a->h.get? a=Z o->¬ lU o)
  (hL: ¬ eD env.locals) (hC:∀x c,env.cells.lookup x=Z c->¬ eD c):FrOk W μ' h' K env I:=by
 obtain⟨mp,hn,hv⟩:=f.ns;obtain⟨o,ho⟩:=Ns.has hn;have tp:=m.Et st hX;refine⟨f.kind,f.kn,f.C3,f.blt,⟨mp,Ns.lL hn λo e=>m.keep _ o f.GN.1 hL e,λi x v h1 h2 h3=>?_⟩,λx hx=>?_,⟨m.jA f.GN.1 ho,f.GN.2⟩,λx c hc=>?_⟩
 ·obtain⟨y,h4,h5⟩:=hv i x v h1 h2 h3
  exact⟨y,h4,h5.cV m.mp tp⟩
 ·obtain⟨c,aN,h1,h2,h3⟩:=f.cell x hx
  refine⟨c,aN,h1,IsCell.lL h2 λo e=>m.keep _ o (f.uJ x c h1).1 (hC x c h1) e,λi v h4 h5=>?_⟩;obtain⟨y,h6,h7⟩:=h3 i v h4 h5;exact⟨y,h6,h7.cV m.mp tp⟩
 ·obtain⟨h1,h2,h3,o,h4⟩:=f.uJ x c hc
  exact⟨m.jA h1 h4,h2,h3,m.has c o h4⟩
theorem FrOk.mv(st:St W S H h)(f:FrOk W S h K env I)(m:Mv W X0 S h μ' H' h'):FrOk W μ' h' K env I:=f.fg st m (λ_ _ q=>q.elim) id λ_ _ _=>id
theorem yX.step{r:V×Hp}{Q:aJ->aV->Prop}(k:yX W s S r Q)(m:Mv W X0 S s.heap μ' H' h'):yX W {s with heap:=h',toks:=tk} μ' r Q:=
 λOt Ai pk' v m2 hv=>k Ot Ai pk' v (m.trans m2) hv
def HE(W:Wd)(gl:aU->aG V):Prop:=∀x v,gl x=Z v->∃y,cB W [] W.h0 v y/\((∃mg,W.h0.Ns 3 mg/\mg x=Z y)\/(∃mg mb,W.h0.Ns 3 mg/\mg x=aB/\W.h0.Ns 0 mb/\mb x=Z y))
section
variable{P:aC->Hp->Prop}{Q:aJ->aV->Prop}{a:aC}{c e:E}{es:Y E}{i:O}{l:aK}{pos:cZ}{v:V}{xs:Y aK}
def D9(W:Wd)(s:aV)(S:Mp)(P:PE)(Q:aJ->aV->Prop):Prop:=∀v H',P v H'->yX W s S (v,H') Q
def HC(W:Wd)(A:dO)(s:aV)(S:Mp)(t:rW aJ)(P:PE):Prop:=∀Q E,D9 W s S P Q->cG (Mo W) A t Q E s
theorem D9.step{P:PE}(k:D9 W s S P Q)(m:Mv W X0 S s.heap μ' H' h'):D9 W {s with heap:=h',toks:=tk} μ' P Q:=λv H p=>(k v H p).step m
theorem D9.fC{P:PE}(r:D9 W s S P Q)(p:P v H)(st:St W S H s.heap)(hv:cB W S s.heap v y):Q y {s with toks:=tk}:=(r v H p).fC st hv
theorem D9.vT{P:PE}(r:D9 W s S P Q)(p:P v H)(st:St W S H s.heap)(hv:cB W S s.heap v y):Q y s:=(r v H p).vT st hv
def dM(W:Wd)(A:dO)(cl:Call)(K:KC)(env:fM)(I:cA)(e:E)(pe:aK):Prop:=
 ∀{H S} {s:aV} {P:PE},FrOk W S s.heap K env I->St W S H s.heap->wE W.G cl e I H P->HC W A s S (eval pe env) P
def u9(W:Wd)(s:aV)(S:Mp)(P:Y V->Hp->Prop)(Q:Y aJ->aV->Prop):Prop:=∀vs H',P vs H'->∀μ' h' tk ys,Mv W X0 S s.heap μ' H' h'->cX W μ' h' vs ys->Q ys {s with heap:=h',toks:=tk}
def t7(W:Wd)(A:dO)(cl:Call)(K:KC)(env:fM)(I:cA)(es:Y E)(IN:Y aK):Prop:=
 ∀{H S} {s:aV} {P:Y V->Hp->Prop},FrOk W S s.heap K env I->St W S H s.heap->Dj W.G cl es I H P->∀Q E,u9 W s S P Q->Qf (Mo W) A env E IN Q s
theorem aj'{c:CQ}(h:Xd v c=u):dM W A cl K env I (.eT v) (.Constant c k pos):=λf st w Q E q=>by
 cases v with
 | none=>cases c<;>first|exact dA h|exact eF (q.vT w st .none)
 | bool b=>cases c<;>first|exact dA h|exact eq_of_beq h▸eF (q.vT w st (.bool _))
 | int i=>cases c<;>first|exact dA h|exact eq_of_beq h▸wpAny_Constant_int (q.fC w st (.int _ _))
 | str z=>cases c<;>first|exact dA h|exact eq_of_beq h▸Calls.Constant_str (q.fC w st (.str _ _))
 | _=>exact dA h
theorem gm(h:ID x=u):(x==("__debug__":aU))=aE:=by simpa [ID] using h
theorem eT'(h:Mg K v x=u):K.gl x=Z v:=by
 unfold Mg at h;cases hq:K.gl x with
 | none=>rw[hq]at h;exact dA h
 | some v'=>rw[hq]at h;rw[ui h]
theorem al'(gl:HE W K.gl)(hd:ID x=u)(hk:K.kn.lookup x=Z .globalImplicit)(h:Mg K v x=u):dM W A cl K env I (.eT v) (.Name x pos):=λf st w Q E q=>by
 obtain⟨y,hr,hy⟩:=gl x v (eT' h);refine wh f.kind (by unfold Iy;rw[f.kn];exact hk) ?_ (gm hd);have hq:=q.vT w st (hr.cV (λi p q=>cI q) st.Uj);rcases hy with⟨mg,h1,h2⟩|⟨mg,mb,h1,h2,h3,h4⟩
 exact wj (f.C3▸Ci st h1) h2 hq;exact wi (f.C3▸Ci st h1) h2 (f.blt▸Ci st h3) h4 hq
theorem cv(h:CA I i=Z v):I[i]?=Z (Z v):=c8.mp h
theorem FrOk.GK(f:FrOk W S h K env I){x:aU}{k:aG jM}(e:K.kn.lookup x=k):env.kindOf x=k:=by unfold Iy;rw[f.kn];exact e
theorem ap'(hd:ID x=u)(hi:K.vn[i]?=Z x)(hk:K.kn.lookup x=Z .local\/K.kn.lookup x=Z .cell):dM W A cl K env I (.D i) (.Name x pos):=λf st w Q E q=>by
 obtain⟨v,hv,w⟩:=w.ok;have hv:=cv hv;refine wpAny_Name ?_ (gm hd);rcases hk with hk|hk
 ·obtain⟨m,hn,hm⟩:=f.ns
  obtain⟨y,h1,h2⟩:=hm i x v hi hv hk;exact m9 f.kind (f.GK hk) hn h1 (q.vT w st h2)
 ·obtain⟨c,aN,h1,h2,h3⟩:=f.cell x hk
  obtain⟨y,rfl,h5⟩:=h3 i v hi hv;exact m8 f.kind (f.GK hk) h1 h2 (q.vT w st h5)
theorem ad'{op:wR}{a b:E}(ha:dM W A cl K env I a l)(hb:dM W A cl K env I b r'):dM W A cl K env I (.bO op a b) (.BinOp l op r' pos):=λf st w Q E q=>
 wpAny_BinOp (ha f st w _ _ λx H1 w1 μ1 h1 tk1 v m1 hv=>hb (f.mv st m1) m1.st w1 _ _ λy H2 w2 μ2 h2 tk2 aN m2 hu=>by
  obtain⟨r,e,w3⟩:=w2.ok;exact ct' m2.st (hv.mv m1.st m2) hu e _ _ (((q r.1 r.2 w3).step m1).step m2))
theorem ar'{a:E}{x:aK}(ha:dM W A cl K env I a x):dM W A cl K env I (.neg a) (.UnaryOp .USub x pos):=λf st w Q E q=>
 l8 (ha f st w _ _ λx H1 w1 μ1 h1 tk1 v m1 hv=>by
  obtain⟨i,hi,w2⟩:=w1.ok;rw[mW hi]at hv;obtain⟨t,rfl⟩:=hv.cN;exact PySem.P.neg_int ((q.step m1).fC w2 m1.st (.int _ _)))
def FW(W:Wd)(s:aV)(S:Mp)(P:aC->Hp->Prop)(Q:aC->aV->Prop):Prop:=∀b H',P b H'->∀μ' h' tk,Mv W X0 S s.heap μ' H' h'->Q b {s with heap:=h',toks:=tk}
abbrev Kl(P:aC->Hp->Prop):PE:=λv h=>bZ (tW v) λb=>P b h
def t8(W:Wd)(A:dO)(cl:Call)(K:KC)(env:fM)(I:cA)(e:E)(pe:aK):Prop:=
 ∀{H S} {s:aV} {P:aC->Hp->Prop},FrOk W S s.heap K env I->St W S H s.heap->wE W.G cl e I H (Kl P)->∀Q E,FW W s S P Q->cG (Mo W) A (isTrue pe env (eval pe env)) Q E s
structure jC(W:Wd)(A:dO)(cl:Call)(K:KC)(env:fM)(I:cA)(e:E)(pe:aK):Prop where
 ev:dM W A cl K env I e pe
 tv:t8 W A cl K env I e pe
theorem FW.step{Q:aC->aV->Prop}(k:FW W s S P Q)(m:Mv W X0 S s.heap μ' H' h'):FW W {s with heap:=h',toks:=tk} μ' P Q:=λb H p μ2 h2 tk2 m2=>k b H p μ2 h2 tk2 (m.trans m2)
theorem FW.fC{Q:aC->aV->Prop}(r:FW W s S P Q)(p:P b H)(st:St W S H s.heap):Q b {s with toks:=tk}:=r b H p S s.heap tk (.refl st)
def jZ':XV->aC
 | .un o _=> !bu o
 | .bool _ _=>aE
 | .ite _ _ _=>aE
 | .bJ _ _ _=>aE
 | _=>u
def ju(e:aK):aC:=jZ' (vw e)
theorem gN'{vd:rW aJ}(h:ju pe=u):isTrue pe env vd=(do let v <- vd;standAt pe.pos;FK [v] (truthy v)):=by
 cases pe with
 | UnaryOp op x p=>cases op<;>first|rfl|exact dA h
 | _=>first|rfl|exact dA h
theorem dM.sD(hp:ju pe=u)(h:dM W A cl K env I e pe):jC W A cl K env I e pe:=⟨h,λ{H S s P} f st w Q E q=>by
 rw[gN' hp];refine bN (h (P:=Kl P) f st w _ _ λx H1 w1 μ' h' tk v m hv=>?_);obtain⟨b,hb,w2⟩:=w1.ok;rw[Oh hb]at hv;rw[show v=_ from hv.cN];exact bN (lP (jN (HA (q b _ w2 μ' h' tk m))))⟩
class inductive vJ (P:E->aK->Prop):Y E->Y aK->Prop where
 | nil:vJ P [] []
 | cons{e:E}{x:aK}{es:Y E}{xs:Y aK}(h:P e x)(t:vJ P es xs):vJ P (e::es) (x::xs)
theorem vJ.MQ(a:vJ (jC W A cl K env I) es xs):t7 W A cl K env I es xs:=by
 induction a with
 | nil=>exact λf st w Q E q=>q [] _ w _ _ _ [] (.refl st) .nil
 | cons h t ih=>
  exact λf st w Q E q=>h.ev f st w _ _ λx H1 w1 μ1 h1 tk1 y m1 hv=>ih (f.mv st m1) m1.st w1 _ _ λxs H2 w2 μ2 h2 tk2 ys m2 SF=>q _ _ w2 μ2 h2 tk2 _ (m1.trans m2) (.cons (hv.mv m1.st m2) SF)
theorem as'{a:E}{x:aK}(ha:jC W A cl K env I a x):jC W A cl K env I (.not a) (.UnaryOp .Not x pos):=by refine⟨λf st w Q E q=>?_,λf st w Q E q=>wpAny_isTrue_Not (ha.tv f st w _ _ λb H1 w1 μ1 h1 tk1 m1=>q (!b) _ w1 μ1 h1 tk1 m1)⟩;refine l8 (ha.ev f st w _ _ λx H1 w1 μ1 h1 tk1 v m1 hv=>?_);obtain⟨b,hb,w2⟩:=w1.ok;rw[Oh hb]at hv;rw[show v=_ from hv.cN];unfold unaryOp;refine jN ?_;show cG _ _ (if (d9==d9)=u then (truthy (Vu b) >>= λc=>pure (Vu (!c))) else _) _ _ _;rw[aZ (by rfl)];exact bN (HA (eF ((q.step m1).vT w2 m1.st (.bool _))))
noncomputable def NP:aC->Ix
 | true=>.And
 | false=>.Or
def LG(G:Cx)(cl:Call)(a:aC)(es:Y E)(I:cA)(h:Hp)(Q:PE):Prop:=cW a (U4 G cl es I h Q) (U6 G cl es I h Q)
theorem va{h:Hp}{Q:PE}(w:LG G cl a [e] I h Q):wE G cl e I h (Kl λb=>Q (.bool b)):=by
 cases a with
 | true=>exact w
 | false=>exact w
theorem uz{e':E}{h:Hp}{Q:PE}(w:LG G cl a (e::e'::es) I h Q):wE G cl e I h (Kl λb h1=>cW (b==a) (LG G cl a (e'::es) I h1 Q) (Q (.bool b) h1)):=by
 have m:∀{P P':PE},(∀v h,P v h=P' v h)->wE G cl e I h P->wE G cl e I h P':=λhp w=>(funext λv=>funext λh=>hp v h)▸w;cases a with
 | true=>exact m (λv h=>by cases v<;>first|rfl|(rename_i b;cases b<;>rfl)) w
 | false=>exact m (λv h=>by cases v<;>first|rfl|(rename_i b;cases b<;>rfl)) w
set_option tactic.hygienic true in
theorem XC(al:vJ (jC W A cl K env I) es xs):∀{H S} {s:aV} {P:PE},FrOk W S s.heap K env I->St W S H s.heap->LG W.G cl a es I H P->HC W A s S (boolOp pos (NP a) (PZ xs env)) P:=by
 induction al with
 | nil=>exact λf st w=>by cases a<;>exact w.elim
 | cons h t ih=>
  rename_i e x es xs;intro H S s P f st w Q E q;cases t with
  | nil=>
   refine h.ev f st (va w) Q E λv H' p=>?_;obtain⟨b,hb,w2⟩:=p.ok;rw[Oh hb];exact q _ _ w2
  | cons h2 t2=>
   rename_i e2 x2 es2 xs2;have body:cG (Mo W) A (eval x env) (λv s'=>cG (Mo W) A (do
    standAt pos
    let t <- FK [v] (truthy v)
    match NP a,t with
    | .And,aE | .Or,u=>pure v
    | _,_=>boolOp pos (NP a) (PZ (x2::xs2) env)) Q E s') E s:=h.ev f st (uz w) _ _ λv H1 w1 μ1 h1 tk1 y m1 hv=>by
     obtain⟨b,hb,w2⟩:=w1.ok;rw[Oh hb]at hv;rw[show y=_ from hv.cN];refine bN (lP (bN (jN (HA ?_))));cases a<;>cases b
     exact ih (f.mv st m1) m1.st w2 Q E (q.step m1);exact eF ((q.step m1).vT w2 m1.st (.bool _));exact eF ((q.step m1).vT w2 m1.st (.bool _));exact ih (f.mv st m1) m1.st w2 Q E (q.step m1)
   exact bN body
theorem Wt(al:vJ (jC W A cl K env I) es xs):∀{H S} {s:aV} {P:aC->Hp->Prop},FrOk W S s.heap K env I->St W S H s.heap->LG W.G cl a es I H (Kl P)->∀Q E,FW W s S P Q->cG (Mo W) A (allTrue (NP a) xs env) Q E s:=by
 induction al with
 | nil=>exact λf st w=>by cases a<;>exact w.elim
 | cons h t ih=>
  intro H S s P f st w Q E q;rw[arm_allTrue_cons];cases t with
  | nil=>
   refine bN (h.tv f st (va w) _ _ λb H1 w1 μ1 h1 tk1 m1=>?_);have q1:Q b _:=q b _ w1 μ1 h1 tk1 m1;cases a<;>cases b<;>exact eF q1
  | cons h2 t2=>
   refine bN (h.tv f st (uz w) _ _ λb H1 w1 μ1 h1 tk1 m1=>?_);cases a<;>cases b
   exact ih (f.mv st m1) m1.st w1 Q E (q.step m1);exact eF (q _ _ w1 μ1 h1 tk1 m1);exact eF (q _ _ w1 μ1 h1 tk1 m1);exact ih (f.mv st m1) m1.st w1 Q E (q.step m1)
theorem ab'(h:vJ (jC W A cl K env I) es xs):jC W A cl K env I (.and es) (.BoolOp .And xs pos):=
 ⟨λf st w=>by rw[i7];exact XC (a:=u) h f st w,λf st w=>by rw[i9];exact Wt (a:=u) h f st w⟩
theorem au'(h:vJ (jC W A cl K env I) es xs):jC W A cl K env I (.or es) (.BoolOp .Or xs pos):=
 ⟨λf st w=>by rw[i7];exact XC (a:=aE) h f st w,λf st w=>by rw[i9];exact Wt (a:=aE) h f st w⟩
theorem af'{op:JF}{a b:E}(wo:WOk W)(hu:A.units+21<BQ)(hm:j5 op r'=aE)(ha:dM W A cl K env I a l)(hb:dM W A cl K env I b r'):jC W A cl K env I (.bJ op a b) (.Compare l [op] [r'] pos):=by
 refine⟨λf st w Q E q=>?_,λ{H S s P} f st w Q E q=>?_⟩
 ·refine wpAny_Compare1 (ha f st w _ _ λx H1 w1 μ1 h1 tk1 v m1 hv=>hb (f.mv st m1) m1.st w1 _ _ λy H2 w2 μ2 h2 tk2 aN m2 Aq=>?_) hm
  obtain⟨c,hc,w3⟩:=w2.ok;exact HQ wo hu m2.st (hv.mv m1.st m2) Aq hc λtk=>((q.step m1).step m2).fC w3 m2.st (.bool _)
 ·refine wpAny_isTrue_Compare1 (ha (P:=λx h=>wE W.G cl b I h λy h=>bZ (xF W.G op x y h) λr=>P r h) f st w _ _ λx H1 w1 μ1 h1 tk1 v m1 hv=>hb (f.mv st m1) m1.st w1 _ _ λy H2 w2 μ2 h2 tk2 aN m2 Aq=>?_) hm
  obtain⟨c,hc,w3⟩:=w2.ok;exact HQ wo hu m2.st (hv.mv m1.st m2) Aq hc λtk=>HA (q _ _ w3 μ2 h2 tk (m1.trans m2))
theorem ag'{A0 uU:JF}{a b:E}{r1 r2:aK}(wo:WOk W)(hu:A.units+21<BQ)(hm:j5 uU r2=aE)(ha:dM W A cl K env I a l)(hb:dM W A cl K env I b r1)(hc:dM W A cl K env I c r2):
  jC W A cl K env I (.xE A0 uU a b c) (.Compare l [A0,uU] [r1,r2] pos):=by
 have M9:markedEach [A0,uU] [r1,r2] (PZ [r1,r2] env)=[eval r1 env,eval r2 env]:=by
  show eval r1 env::[markedBehindIn uU r2 (eval r2 env)]=_;rw[markedBehindIn_of_false hm]
 refine⟨λf st w Q E q=>?_,λ{H S s P} f st w Q E q=>?_⟩
 ·rw[arm_eval_Compare,M9]
  refine bN (ha f st w _ _ λx H1 w1 μ1 h1 tk1 v m1 hv=>bN (jN (hb (f.mv st m1) m1.st w1 _ _ λy H2 w2 μ2 h2 tk2 aN m2 Aq=>?_)));refine bN (lP (bN (jN ?_)));obtain⟨r,hr,w3⟩:=w2.ok;refine HQ wo hu m2.st (hv.mv m1.st m2) Aq hr λtk=>?_;refine bN (JS (bN (jN (HA ?_))));cases r with
  | true=>
   refine bN (jN (hc ((f.mv st m1).mv m1.st m2) m2.st w3 _ _ λz H3 w4 μ3 h3 yB u3 m3 SD=>?_));refine bN (lP (JR ?_));obtain⟨d,hd,w5⟩:=w4.ok;exact HQ wo hu m3.st (Aq.mv m2.st m3) SD hd λtk=>(((q.step m1).step m2).step m3).fC w5 m3.st (.bool _)
  | false=>exact eF (((q.step m1).step m2).fC w3 m2.st (.bool _))
 ·rw[arm_isTrue_Compare,M9]
  refine bN (ha (P:=λx h=>wE W.G cl b I h λy h=>bZ (xF W.G A0 x y h) λr=>cW r (wE W.G cl c I h λz h=>bZ (xF W.G uU y z h) λr=>P r h) (P aE h)) f st w _ _ λx H1 w1 μ1 h1 tk1 v m1 hv=>bN (jN (hb (f.mv st m1) m1.st w1 _ _ λy H2 w2 μ2 h2 tk2 aN m2 Aq=>?_)));refine bN (lP (bN (jN ?_)));obtain⟨r,hr,w3⟩:=w2.ok;refine HQ wo hu m2.st (hv.mv m1.st m2) Aq hr λtk=>?_;refine bN (JS (bN (jN (HA ?_))));cases r with
  | true=>
   refine bN (jN (hc ((f.mv st m1).mv m1.st m2) m2.st w3 _ _ λz H3 w4 μ3 h3 yB u3 m3 SD=>?_));refine bN (lP (bN (JR ?_)));obtain⟨d,hd,w5⟩:=w4.ok;exact HQ wo hu m3.st (Aq.mv m2.st m3) SD hd λtk=>jN (HA ((((q.step m1).step m2).step m3).fC w5 m3.st))
  | false=>exact eF (((q.step m1).step m2).fC w3 m2.st)
theorem an'{t f':E}{pt:aK}(hc:jC W A cl K env I c pc)(ht:jC W A cl K env I t pt)(hf:jC W A cl K env I f' pf):jC W A cl K env I (.ite c t f') (.IfExp pc pt pf pos):=by
 refine⟨λf st w Q E q=>wpAny_IfExp (hc.tv f st w _ _ λb H1 w1 μ1 h1 tk1 m1=>?_),λ{H S s P} f st w Q E q=>?_⟩
 ·cases b with
  | true=>exact ht.ev (f.mv st m1) m1.st w1 _ _ (q.step m1)
  | false=>exact hf.ev (f.mv st m1) m1.st w1 _ _ (q.step m1)
 ·rw[arm_isTrue_IfExp]
  refine bN (hc.tv f st w _ _ λb H1 w1 μ1 h1 tk1 m1=>?_);cases b with
  | true=>exact ht.tv (f.mv st m1) m1.st w1 _ _ (q.step m1)
  | false=>exact hf.tv (f.mv st m1) m1.st w1 _ _ (q.step m1)
end
def yS(W:Wd)(A:dO)(cl:Call):Prop:=
 ∀{n np nv b args H S} {s:aV} {vals f P},W.G.kind n= .fn np nv b->W.lX n=Z f->St W S H s.heap->cX W S s.heap args vals->cl n args H P->HC W A s S (call f vals) P
def K6(A:dO)(A':dO):Prop:=A'=A\/ ∃C vals,A'=A.under (.builtin "type.__call__" ⟨.ref C::vals,[]⟩)
section
variable{es:Y E}{o:E}{pos:cZ}{xs:Y aK}
theorem YE{vs:Y V}(h:Qn vs=u):vs.length<=aF:=fY h
theorem aw'(hs:wJ xs=u)(h:vJ (jC W A cl K env I) es xs):dM W A cl K env I (.aM es) (.Tuple xs k pos):=λf st w Q E q=>by rw[arm_eval_Tuple,Fd pos env hs];refine bN (lP (bN (K3 (h.MQ f st w _ _ λvs H1 w1 μ1 h1 tk ys m hr=>?_))));have hz:vs.length<=16000000:=YE (KM w1).1;refine WU ?_ (vA (aL (dH hr.length.symm) hz));have m2:=Mv.newTuple (n:=0) (items:=ys.toArray) m.st hz hr;exact q _ _ (KM w1).2 _ _ tk _ (m.trans m2.1) m2.2
theorem ao'(hs:wJ xs=u)(h:vJ (jC W A cl K env I) es xs):dM W A cl K env I (.list es) (.List xs pos):=λf st w Q E q=>by rw[arm_eval_List,Fd pos env hs];refine bN (lP (bN (K3 (h.MQ f st w _ _ λvs H1 w1 μ1 h1 tk ys m hr=>?_))));have hz:vs.length<=16000000:=YE (KM w1).1;refine WU ?_ (vA (aL (dH hr.length.symm) hz));have m2:=Mv.newList (n:=0) (items:=ys.toArray) m.st hz hr;exact q _ _ (KM w1).2 _ _ tk _ (m.trans m2.1) m2.2
theorem ac'{a:O}(wo:qC W)(hn:DR o'=u)(ha:W.an a=Z x)(h:dM W A cl K env I o o'):dM W A cl K env I (.bI o a) (.Attribute o' x pos):=λf st w Q E q=>
 ec' hn (h f st w _ _ λv H1 w1 μ1 h1 tk1 y m1 hv=>by
  obtain⟨aN,e,w2⟩:=w1.ok;exact ay' wo m1.st ha hv e _ _ ((q _ _ w2).step m1))
theorem gq'{x r:V}{v:aJ}(wo:WOk W)(st:St W S H s.heap)(hv:cB W S s.heap x v)(hr:Au W.G x i H=Z r):AV (λT id=>FN (.type T) "__getitem__"=pure (Z (.builtin id))) (λT id=>s.TypeIs v T):=by
 cases x with
 | aM xs=>
  obtain⟨a,items,rfl,_,ht,_⟩:=hv.cN;exact⟨"tuple",_,l7.lookup,ht.is.typeIs⟩
 | ref l=>
  obtain⟨ob,hA,e⟩:=dD hr;cases ob with
  | list xs=>
   obtain⟨a,ia,rfl,_,hl,_⟩:=st.rL hA hv;exact⟨"list",_,l6.lookup,hl.is.typeIs⟩
  | dict es ep=>
   obtain⟨d,bX,n,rfl,_,_,hd,_⟩:=st.dictAt wo hA hv;exact⟨"dict",_,k8.lookup,hd.dictOf.typeIs⟩
  | inst=>exact cI e
 | g n=>
  obtain⟨es,hA,e⟩:=dD hr;obtain⟨d,bX,ep,rfl,_,hd,_⟩:=st.Ql wo (Qk hA) hv;exact⟨"dict",_,k8.lookup,hd.dictOf.typeIs⟩
 | _=>exact cI hr
theorem am'{i:E}(wo:WOk W)(hs:DF i'=aE)(ho:dM W A cl K env I o o')(hi:dM W A cl K env I i i'):dM W A cl K env I (.aY o i) (.Subscript o' i' pos):=λf st w Q E q=>
 ef' hs (ho f st w _ _ λx H1 w1 μ1 h1 tk1 v m1 hv=>hi (f.mv st m1) m1.st w1 _ _ λk H2 w2 μ2 h2 tk2 aN m2 hu=>by
  obtain⟨n,hn,w3⟩:=w2.ok;obtain⟨r,hr,w4⟩:=w3.ok;rw[mW hn]at hu;obtain⟨t,rfl⟩:=hu.cN;have hv:=hv.mv m1.st m2;obtain⟨T,id,k1,k2⟩:=gq' (s:=⟨h2,_,_,tk2,_⟩) wo m2.st hv hr;exact⟨T,id,k1,k2,ag wo m2.st hv hr _ E (((q _ _ w4).step m1).step m2)⟩)
def D5(W:Wd)(A:dO)(cl:Call)(K:KC)(env:fM)(I:cA)(e:E)(pe:aG aK):Prop:=
 ∀{H S} {s:aV} {P:PE},FrOk W S s.heap K env I->St W S H s.heap->wE W.G cl e I H P->HC W A s S (WI pe env) P
theorem z9:D5 W A cl K env I (.eT .none) aB:=λf st w Q E q=>by rw[WJ];exact eF (q.vT w st .none)
theorem aa'{e:E}{x:aK}(h:dM W A cl K env I e x):D5 W A cl K env I e (Z x):=λf st w Q E q=>by rw[evalPart_some];exact h f st w Q E q
theorem av'{o lo hi:E}{l aN:aG aK}{p:cZ}(ho:dM W A cl K env I o o')(hl:D5 W A cl K env I lo l)(hu:D5 W A cl K env I hi aN):dM W A cl K env I (.oO o lo hi) (.Subscript o' (.Slice l aN aB p) pos):=λf st w Q E q=>
 ee' (ho f st w _ _ λx H1 w1 μ1 h1 tk1 v m1 hv=>hl (f.mv st m1) m1.st w1 _ _ λa H2 w2 μ2 h2 tk2 vl m2 DA=>hu ((f.mv st m1).mv m1.st m2) m2.st w2 _ _ λb H3 w3 μ3 h3 yB vu m3 KG=>by
  obtain⟨r,e,w4⟩:=w3.ok;exact nI' m3.st ((hv.mv m1.st m2).mv m2.st m3) (DA.mv m2.st m3) KG e ((((q _ _ w4).step m1).step m2).step m3))
theorem gV'{p:D2}(hC:s.heap.get? C=Z (p.obj C N)):tE (Mo W) A (.ref C) s:=⟨.machine,λQ E hq=>by
 obtain⟨hh,g,d,t,os⟩:=s;have f1:=tc_lookup;have hT:(⟨hh,g,d,t,os⟩:aV).TypeIs (.ref C) "type":=⟨_,hC,rfl⟩;unfold WM specialOf;repeat (any_goals (first|assumption|with_reducible refine wpAny_loadPart_at hC ?_|with_reducible refine wpAny_load' hC ?_|wp_step))
 all_goals exact hq⟩
theorem in'{n:O}{x dx:bC}(st:St W S H h)(hg:W.lX n=Z (.ref C))(hm:Heap.MadeObj h h1 x dx C):Mv W X0 S h (S++[(x,Z dx)]) (H++[.inst n []]) h1:=by
 obtain⟨o,SI,Z5,hxd,Z8⟩:=hm.inst;have Zc:=hm.dict o SI;rw[Zc]at Z8;rcases Z8 with⟨h2,_⟩|⟨d',h2,h3,h4⟩
 ·exact cI h2.symm
 ·rw[<-aT h2]at h3 h4
  refine Mv.Nr st hm.keeps (λa ha=>?_) (.inst (m:=λ_=>aB) hg SI Z5 hxd h3 Zc h4 ⟨λ_ _ _=>rfl,λy hy=>(hy rfl).elim⟩) (λa ha ob e=>?_)
  ·rcases Ni ha with e|e<;>rw[e]
   exact hm.newX;exact hm.newD
  ·rcases Ni ha with h|h
   ·rw[h,SI]at e;exact aT e▸gp Z5
   ·obtain⟨o2,es,ep,e1,e2,_⟩:=h4
    rw[h,e1]at e;exact aT e▸GS e2
def WW(W:Wd)(A:dO)(s:aV)(S:Mp)(f:aJ)(vs:Y aJ)(P:PE):Prop:=tE (Mo W) A f s/\HC W A s S (call f vs) P
theorem qi'{x:V}{f:aJ}{xs:Y V}{vs:Y aJ}{P:PE}(wo:qC W)(hh:A.handled=aB)(hc:∀A',K6 A A'->yS W A' cl)(st:St W S H s.heap)(hx:cB W S s.heap x f)(xO:cX W S s.heap xs vs)(w:vb W.G cl x xs H P):
  WW W A s S f vs P:=by
 cases x with
 | g n=>
  have hg:W.lX n=Z f:=hx.cN;change (match W.G.kind n with | .fn _ _ _=>_ | .cls gR=>_ | .blt b=>_ | .rD _=>False | .sH _=>False | .kX=>False) at w;cases hk:W.G.kind n with
  | fn np nv b=>
   rw[hk]at w;obtain⟨a,o,fd,h1,h2,h3⟩:=wo.YU n np nv b hk;have e:f= .ref a:=aT (hg.symm.trans h1);exact⟨e▸tE.func (st.iH _ _ h2) h3,hc A (.inl rfl) hk hg st xO w⟩
  | cls gR=>
   rw[hk]at w;obtain⟨C,N,mN,p,K⟩:=wo.cls n gR hk;have e:f= .ref C:=aT (hg.symm.trans K.ga);obtain⟨np,nv,b,hki⟩:=wo.gR n gR hk;obtain⟨fI,oI,g8,g9,Me,Q0⟩:=K.gR;have hC:=st.iH _ _ K.obj;rw[e];refine⟨gV' hC,λQ E q=>?_⟩;obtain⟨hp,g,d,t,os⟩:=s;refine wpAny_call_obj_init F.objNew hC (Ci st K.ns) g9 (st.iH _ _ Me) Q0 λh1 x dx hm=>?_;have m1:=in' st K.ga hm;have Z7:cB W (S++[(x,Z dx)]) h1 (.ref H.length) (.ref x):=.ref (p:=(x,Z dx)) (by rw[<-st.len];simp);refine hc _ (.inr ⟨C,vs,rfl⟩) (s:=⟨h1,g,d,t,os⟩) hki g8 m1.st (.cons Z7 (xO.mv st m1)) w _ _ λv H2 w2 μ2 h2 tk2 y m2 hv=>?_;rw[w2.1]at hv;exact⟨hv.cN,q _ _ w2.2 μ2 h2 tk2 (.ref x) (m1.trans m2) (Z7.mv m1.st m2)⟩
  | blt b=>
   rw[hk]at w;have e:f=MD b:=aT (hg.symm.trans (wo.blt n b hk));obtain⟨r,hr,w⟩:=w.ok;rw[e];exact⟨by cases b<;>first|exact tE.builtin|exact tE.type,λQ E q=>dh' wo hh st xO hr _ _ (q _ _ w)⟩
  | rD=>rw[hk]at w;exact w.elim
  | sH=>rw[hk]at w;exact w.elim
  | kX=>rw[hk]at w;exact w.elim
 | _=>exact w.elim
end
section
variable{l m:O}{pos:cZ}{r:V×Hp}{ys:Y aJ}
theorem ae'{f:E}{args:Y E}{f':aK}(wo:qC W)(hh:A.handled=aB)(hc:∀A',K6 A A'->yS W A' cl)(hf:XG (vw f')=u)(hs:wJ kC=u)(h:dM W A cl K env I f f')(ha:vJ (jC W A cl K env I) args kC):
  dM W A cl K env I (.call f args) (.Call f' kC [] pos):=λ{H S s P} fr st w Q E q=>by
 have P6:eval (.Call f' kC [] pos) env=(do Lh pos (<- eval f' env) [] (JJ pos (FM kC env)) []):=by
  have k:=oA f';cases hv:vw f' with
  | name x=>rw[hv]at k;obtain⟨p,rfl⟩:=k;rfl
  | aY o i=>rw[hv]at k;obtain⟨p,rfl⟩:=k;rfl
  | _=>rw[hv]at hf;exact dA hf
 rw[P6];refine bN (h fr st w _ _ λfv H1 w1 μ1 h1 tk1 v m1 hv=>?_);refine QM (L9 pos env hs) (Qg (L9 pos env hs) ?_);rw[Fd pos env hs];refine K3 (ha.MQ (fr.mv st m1) m1.st w1 _ _ λvs H2 w2 μ2 h2 tk2 ys m2 hr=>?_);have hv:=hv.mv m1.st m2;have k:=qi' (s:= {s with heap:=h2,toks:=tk2}) wo hh hc m2.st hv hr w2;exact⟨k.1,rfl,k.2 _ _ ((q.step m1).step m2)⟩
theorem cX.hh'{v:V}(r:cX W S h xs ys)(e:xs.getLast? = Z v):fQ (λy=>ys[ys.length-1]?=Z y) (λy=>cB W S h v y):=by rw[CU,r.length]at e;exact r.get e
theorem cX.dropLast(r:cX W S h xs ys):cX W S h xs.dropLast ys.dropLast:=by rw[VT,VT,r.length];exact r.take _
structure FO(W:Wd):Prop where
 append:W.an 0=Z "append"
 pop:W.an 1=Z "pop"
 extend:W.an 2=Z "extend"
 get:W.an 3=Z "get"
noncomputable def S8:O->lA
 | 0=>"list.append"
 | 1=>"list.pop"
 | _=>"list.extend"
theorem hM'{a:bC}(st:St W S H s.heap)(hA:H[l]?=Z (.list xs))(hp:S[l]?=Z (a,aB))(hr:cX W S s.heap args vals)(e:DJ l xs m args H=Z r):
  Cg W A s S (call (.builtin (S8 m)) (.ref a::vals)) r:=by
 obtain⟨a',items,e1,_,hl,By,hz⟩:=st.rL hA (.ref (p:=(a,aB)) hp);rw[<-Cc e1]at hl;obtain⟨n,ho⟩:=id hl;have hz:items.size<=16000000:=hz;have dE:=By.size;intro Q E q
 match m,e with
 | 0,e=>
  obtain⟨v,rfl,e⟩:=EF e;obtain⟨eC,e⟩:=iY e;obtain⟨y,rfl,hv⟩:=hr.eY;have eC:xs.length<16000000:=fY eC;rw[<-aT e]at q;refine FI wu ⟨_,ho,rfl⟩ F.entry_list_append (F.args_list_append_2 _ _) (AutoListH.list_append_list_val_0 a items n _ (vA (dE▸lO eC))) ⟨ho,?_⟩;exact q _ _ s.toks _ (Mv.listUpdate st hp hl (by rw[bA,KX];exact eC) (by rw[vx];exact By.append (.cons hv .nil))) .none
 | 1,e=>
  cases args with
  | cons=>exact cI e
  | nil=>
   obtain⟨v,hv,e⟩:=dD e;rw[show vals=[] from hr.cN];obtain⟨y,hy,SG⟩:=By.hh' hv;rw[vr,Dl]at hy;rw[<-aT e]at q;have gF:items.size-1<items.size:=(Array.getElem?_eq_some_iff.mp hy).1;refine FI wz ⟨_,ho,rfl⟩ F.entry_list_pop (F.args_list_pop_1 _) (MeetsSeq.list_pop_last a items n y hy (vA hz)) ⟨ho,?_⟩;have m:=Mv.listUpdate (f:=λxs=>xs.eraseIdxIfInBounds (items.size-1)) (ys:=xs.dropLast) st hp hl (by rw[iR];exact aL (fW ..) (dE▸hz)) (by
    rw[Array.eraseIdxIfInBounds,dif_pos gF,Array.toList_eraseIdx,List.eraseIdx_eq_dropLast];exact By.dropLast
    ·rw[vr];exact jH (CY gF))
   exact q _ _ s.toks _ m (SG.mv st m)
 | 2,e=>
  obtain⟨v,rfl,e⟩:=EF e;obtain⟨b,hb,e⟩:=dD e;obtain⟨ys,hB,e⟩:=dD e;obtain⟨hc,e⟩:=iY e;obtain⟨y,rfl,hv⟩:=hr.eY;rw[yD hb]at hv;obtain⟨a2,Av,rfl,lQ,nJ,kP,mA⟩:=st.rL (wG hB) hv;obtain⟨n2,EX⟩:=id nJ;have EU:=kP.size;have eC:xs.length+ys.length<=16000000:=fY (aO hc).2;rw[<-aT e]at q;refine FI ww ⟨_,ho,rfl⟩ F.entry_list_extend (F.args_list_extend_2 _ _) (AutoSeq1.list_extend_list_list_0 a items n a2 Av n2 (by simp [VD,qb];lia) (vA hz) (nP (vA (dE▸EU▸eC)))) ⟨ho,EX,?_⟩;exact q _ _ s.toks _ (Mv.listUpdate st hp hl (by rw[bA];exact eC) (by rw[vv];exact By.append kP)) .none
 | k+3,e=>exact cI e
theorem dH'{p:Y (J×V)×aG O}{d:bC}(wo:WOk W)(st:St W S H s.heap)(hA:H[l]?=Z (.dict p.1 p.2))(hp:S[l]?=Z (d,aB))(hr:cX W S s.heap args vals)(e:QV p.1 m args H=Z r):
  m=3/\Cg W A s S (call (.builtin "dict.get") (.ref d::vals)) r:=by
 obtain⟨d',bX,n,e1,_,hs,hd,Hw,he⟩:=st.dictAt wo hA (.ref (p:=(d,aB)) hp);rw[<-Cc e1]at hd hs;obtain⟨h3,e⟩:=iY e;obtain⟨x,y,rfl,e⟩:=P5 e;obtain⟨k,hk,e⟩:=dD e;obtain⟨v,v1,rfl,hx,r1⟩:=hr.cN;obtain⟨aN,rfl,hy⟩:=r1.eY;rw[mW hk]at hx;obtain⟨t,rfl⟩:=hx.cN;refine⟨AP h3,λQ E q=>?_⟩;rw[<-aT e]at q;refine call_meetsIn ws hd.dictOf.typeIs F.entry_dict_get (F.args_dict_get_3 _ _ _) (meets_dict_get_default (nF W.prog W.w) d (G8 _ _ _ t) hs _) ⟨_,hd.dictOf.mapOf,?_⟩;rcases Hw.Qq k with⟨h1,h2⟩|⟨p,y,h1,h2,hv⟩
 rw[h1]at q;rw[h2];exact q.fC st hy;rw[h1]at q;rw[h2];exact q.fC st hv
theorem ed'{Q:aJ->aV->Prop}{E:aJ->aV->Prop}(hn:DR o'=u)(hl:(ap.endLine==pos.line)=u)(hs:wJ kC=u)(hf:kC.length<29)
  (h:cG (Mo W) A (eval o' env) (λov s₁=>∀pl,cG (Mo W) A (JL ov x pl) (λp s₂=>cG (Mo W) A (Lh pos p.1 p.2 (kC.map λe=>(aE,eval e env)) []) Q E s₂) E s₁) E s):
  cG (Mo W) A (eval (.Call (.Attribute o' x ap) kC [] pos) env) Q E s:=by
 rw[arm_eval_Call];refine bN (Wx hn (nG h (λov s₁ h₁=>bN (lP ?_)) λ_ _ e=>e));have fw':j9 (kC.length+([]:Y Keyword).length) (JJ pos (FM kC env)) (backToKw pos (keywordEach [] env))=u:=by
  unfold j9;rw[Fd pos env hs];rw[xt,show kC.all ((λx=> !x.1)∘λe=>(aE,eval e env))=u from yL.mpr λ_ _=>rfl];exact decide_eq_true (yP hf)
 have lZ:k4 u o' env ap pos=pure pos:=by unfold k4;rw[hl];rfl
 unfold methodCall;rw[fw'];refine bN (jN ?_);unfold calleeOf;rw[aZ rfl];refine nG (h₁ _) (λp s₂ h₂=>?_) λ_ _ e=>e;refine bN (wpAny_of_eq lZ ?_);rw[Fd pos env hs];exact h₂
def Lw(W:Wd)(A:dO)(μ1:Mp)(H1:Hp)(h1:bS)(s:aV)(p:aJ×Y aJ)(Dd:xA)(ov:V)(m:O)(cl:Call):Prop:=
 ∀{μ2 h2 tk2 H2 vs ys P},Mv W X0 μ1 h1 μ2 H2 h2->cX W μ2 h2 vs ys->vc W.G cl Dd ov m vs H2 P->WW W A {s with heap:=h2,toks:=tk2} μ2 p.1 (p.2++ys) P
theorem cA'{P:O->Prop}(h:JB m 2=u)(a:P 0)(b:P 1)(c:P 2):P m:=by
 cases m with
 | zero=>exact a
 | succ m=>cases m with
  | zero=>exact b
  | succ m=>cases m with
   | zero=>exact c
   | succ m=>exact dA h
section
variable{pl:rW aC}{Q:aJ×Y aJ->aV->Prop}{E:aJ->aV->Prop}
theorem eR'(ao:FO W)(hm:W.an m=Z x)(st:St W S H s.heap)(ho:H[l]?=Z (.list xs))(hw:cB W S s.heap (.ref l) w)(hM:JB m 2=u)(q:∀p tk,Lw W A S H s.heap s p .GQ (.ref l) m cl->Q p {s with toks:=tk}):cG (Mo W) A (JL w x pl) Q E s:=by
 obtain⟨a,ia,rfl,hp,xM,hr,hz⟩:=st.rL ho hw;obtain⟨n,F6⟩:=id xM;have go:∀{id},Slot "list" x id->typeOf (.builtin id)=pure (.type "method_descriptor")->S8 m=id->cG (Mo W) A (JL (.ref a) x pl) Q E s:=λ{id} sl ty hid=>
  j7 (T:="list") ⟨_,F6,rfl⟩ F.plainAttrs_list sl ty (λb hb=>by cases hb;exact⟨_,F6,rfl⟩) (q _ _ λ{μ2 h2 tk2 H2 vs ys P} m2 kP w=>⟨tE.builtin,by
   obtain⟨U8,hA,w⟩:=w.ok;obtain⟨r,xN,w⟩:=w.ok;exact λQ E q=>hid▸hM' m2.st (wG hA) (m2.mp _ _ hp) kP xN _ _ (q _ _ w)⟩)
 clear q hz hr hp F6 xM hw ho st;revert hm go;exact cA' (P:=λm=>W.an m=Z x->(∀{id},Slot "list" x id->typeOf (.builtin id)=pure (.type "method_descriptor")->S8 m=id->_)->_) hM
  (λhm go=>go (aT (hm.symm.trans ao.append)▸wu) F.type_list_append rfl)
  (λhm go=>go (aT (hm.symm.trans ao.pop)▸wz) F.type_list_pop rfl)
  (λhm go=>go (aT (hm.symm.trans ao.extend)▸ww) F.type_list_extend rfl)
theorem eP'{ep:aG O}(wo:WOk W)(ao:FO W)(hm:W.an m=Z x)(st:St W S H s.heap)(ho:H[l]?=Z (.dict es ep))(hw:cB W S s.heap (.ref l) w)(m3:m=3)(q:∀p tk,Lw W A S H s.heap s p .Jl (.ref l) m cl->Q p {s with toks:=tk}):cG (Mo W) A (JL w x pl) Q E s:=by obtain⟨d,bX,n,rfl,hp,R9,hd,Hw,he⟩:=st.dictAt wo ho hw;rw[m3]at hm;rw[aT (hm.symm.trans ao.get)];obtain⟨o,es',F6,RS,_⟩:=id hd;refine j7 (T:="dict") hd.dictOf.typeIs F.plainAttrs_dict ws F.type_dict_get (λb hb=>by cases hb;exact⟨_,F6,RS.2.1⟩) (q _ _ λ{μ2 h2 tk2 H2 vs ys P} m2 kP w=>⟨tE.builtin,?_⟩);obtain⟨p',hA,w⟩:=w.ok;obtain⟨r,xN,w⟩:=w.ok;exact λQ E q=>(dH' wo m2.st (MP hA) (m2.mp _ _ hp) kP xN).2 _ _ (q _ _ w)
theorem eQ'{c:O}(wo:qC W)(hc:yS W A cl)(hm:W.an m=Z x)(st:St W S H s.heap)(ho:H[l]?=Z (.inst c fs))(hw:cB W S s.heap (.ref l) w)(RL:((W.G.aX c m).isSome&&(lW fs m).isNone)=u)(q:∀p tk,Lw W A S H s.heap s p (.H7 c) (.ref l) m cl->Q p {s with toks:=tk}):cG (Mo W) A (JL w x pl) Q E s:=by obtain⟨fn,Bp⟩:=rV.mp (aO RL).1;have fJ':=CZ.mp (aO RL).2;clear RL;obtain⟨⟨i,hk⟩,np,nv,b,ZJ⟩:=wo.iz' c m fn Bp;refine st.bc ho hw λC mp ad d o e1 _ hI My _ _ _ _ _ _ hr=>?_;subst e1;obtain⟨C',N,mN,pp,K⟩:=wo.cls c i hk;have e:C'=C:=Cc (aT (K.ga.symm.trans My));obtain⟨fa,DS,y,hmn,kG,Ru,fM',hty⟩:=K.aX m fn x Bp hm;have Zx:=hr.1 m x hm;rw[fJ']at Zx;obtain⟨a',o',fd,k1',k2',k3'⟩:=wo.YU fn np nv b ZJ;have ef:fa=a':=Cc (aT (kG.symm.trans k1'));obtain⟨Bw,g,dr,tk0,os⟩:=s;refine method_of (e▸st.iH _ _ K.obj) (Ci st K.ns) K.gn K.iN' hmn (st.iH _ _ Ru) fM' hty hI Zx (q (.ref fa,[.ref ad]) tk0 λ{μ2 h2 tk2 H2 vs ys P} m2 kP w=>⟨tE.func (m2.st.iH _ _ (ef▸k2')) k3',?_⟩);obtain⟨f',sK,w⟩:=w.ok;rw[aT (sK.symm.trans Bp)]at w;exact hc (s:=⟨h2,g,dr,tk2,os⟩) ZJ kG m2.st (.cons (hw.mv st m2) kP) w
theorem eO'{ov:V}{Dd:xA}(wo:qC W)(ao:FO W)(hc:yS W A cl)(hm:W.an m=Z x)(st:St W S H s.heap)(hw:cB W S s.heap ov w)(ht:K7 W.G m ov H=Z Dd)(q:∀p tk,Lw W A S H s.heap s p Dd ov m cl->Q p {s with toks:=tk}):cG (Mo W) A (JL w x pl) Q E s:=by
 obtain⟨l,hl,e⟩:=dD ht;obtain⟨ob,ho,e⟩:=dD e;rw[yD hl]at hw q;clear hl ht;cases ob with
 | list xs=>
  obtain⟨hM,e⟩:=iY e;exact eR' ao hm st ho hw hM ((aT e).symm▸q)
 | dict es ep=>
  obtain⟨hM,e⟩:=iY e;exact eP' wo.toWOk ao hm st ho hw (AP hM) ((aT e).symm▸q)
 | inst c fs=>
  obtain⟨hM,e⟩:=iY e;exact eQ' wo hc hm st ho hw hM ((aT e).symm▸q)
end
theorem aq'{o:E}{args:Y E}(wo:qC W)(ao:FO W)(hc:∀A',K6 A A'->yS W A' cl)(hn:DR o'=u)(hl:(ap.endLine==pos.line)=u)(hs:wJ kC=u)(hf:kC.length<29)(hm:W.an m=Z x)
  (h:dM W A cl K env I o o') (ha:vJ (jC W A cl K env I) args kC):dM W A cl K env I (.aX o m args) (.Call (.Attribute o' x ap) kC [] pos):=λ{H S s P} fr st w Q E q=>by
 refine ed' hn hl hs hf (h fr st w _ _ λov H1 w1 μ1 h1 tk1 v m1 hv pl=>?_);obtain⟨Dd,ht,w2⟩:=w1.ok;have F7:(kC.map λe=>(aE,eval e env)).any (·.1)=aE:=by rw[xw];exact xu.mpr λ_ _=>E1
 refine eO' (s:= {s with heap:=h1,toks:=tk1}) wo ao (hc A (.inl rfl)) hm m1.st hv ht λp tk ma=>?_;refine QM F7 (Qg F7 (K3 (ha.MQ (s:= {s with heap:=h1,toks:=tk}) (fr.mv st m1) m1.st w2 _ _ λvs H2 w3 μ2 h2 tk2 ys m2 hr=>?_)));have k:=ma (tk2:=tk2) m2 hr w3;exact⟨k.1,rfl,k.2 _ _ ((q.step m1).step m2)⟩
end
theorem Mv.xB{H1:Hp}(m:Mv W eD S h μ1 H1 h1)(Co:bC->Prop)(hY:∀a,Co a->A3 (¬ gD μ1 a) (W.h0.get? a=aB) (h.get? a=aB))(hF:∀a o,Co a->h1.get? a=Z o->¬ lU o)
  (hk:∀b o,¬ Co b->h1.get? b=Z o->h'.get? b=Z o):Mv W eD S h μ1 H1 h':=by
 refine⟨⟨m.st.len,λb o e=>hk b o (λq=>cI ((hY b q).2.symm.trans e)) (m.st.iH b o e),λi o p ho hp=>(m.st.obj i o p ho hp).cV (λ_ _ e=>e) (λa o e hf=>hk a o (λq=>hF a o q e hf) e) (λa ha ob e=>hk a ob (λq=>(hY a q).1 (.CC hp ha)) e),m.st.fresh,m.st.apart,λa o ha e=>?_⟩,
  m.ext,m.new,λa o e=>?_,λb o hb hx e=>hk b o (λq=>cI ((hY b q).3.symm.trans e)) (m.keep b o hb hx e)⟩
 ·obtain⟨o',rH⟩:=m.st.has ha
  rw[<-aT ((hk a o' (λq=>(hY a q).1 ha) rH).symm.trans e)];exact m.st.kind a o' ha rH
 ·obtain⟨o',e'⟩:=m.has a o e
  exact⟨o',hk a o' (λq=>cI ((hY a q).3.symm.trans e)) e'⟩
inductive qW(W:Wd)(S:Mp)(h:bS)(bK:bC):V->O->Prop where
 | list{a:O}{l:bC}{k:O}(hp:S[a]?=Z (l,aB))(hi:h.IsListIter bK l k):qW W S h bK (.ref a) k
 | aM{xs:Y V}{t:bC}{items:gN aJ}{k:O}(hz:xs.length<=aF)(ht:BW h t items)(hr:cX W S h xs items.toList)(hi:h.IsTupleIter bK t k):qW W S h bK (.aM xs) k
 | gG{lo hi left:J}{k:O}(hl:(lo+k<hi->left=hi-lo-k)/\(¬ lo+k<hi->left<=0))(iI:IsRangeIter h bK (lo+k) left 1):qW W S h bK (.gG lo hi) k
theorem Ju{o:gQ}(h:o.cls= .type T)(ht:T≠"tuple")(hr:T≠"range"): ¬ lU o:=λz=>by
 rcases z with⟨a,_⟩|⟨a,_⟩
 exact ht (f9 (h.symm.trans a));exact hr (f9 (h.symm.trans a))
theorem qW.has{x:V}(i:qW W S h bK x k):fQ (λo=>h.get? bK=Z o) (λo=>¬ lU o):=by
 cases i with
 | list hp hi=>obtain⟨o,e,hc,hd⟩:=hi;exact⟨o,e,Ju hc (by decide) (by decide)⟩
 | aM hz ht hr hi=>obtain⟨o,e,hc,hd⟩:=hi;exact⟨o,e,Ju hc (by decide) (by decide)⟩
 | gG hl iI=>exact⟨_,iI,Ju rfl (by decide) (by decide)⟩
section
variable{x:V}{y:aG V}
theorem cX.Q2(r:cX W S h xs items.toList)(k:O):Cj W S h xs[k]? items[k]?:=by
 cases e:xs[k]? with
 | none=>
  rw[yd,r.size]at e;exact Array.getElem?_eq_none e
 | some x=>
  obtain⟨y,h1,h2⟩:=r.get e;rw[Dl]at h1;rw[h1];exact h2
theorem dj(h:i.natAbs<2^60): -2^62<=i:=Int.neg_le_of_neg_le (vE (yI (de (Int.natAbs_neg i▸h)) (by decide)))
theorem di(h:i.natAbs<2^60):i<2^62:=yI (de h) (by decide)
theorem kg{v:aJ}(st:St W S H s.heap)(hx:cB W S s.heap x v)(hn:zY x 0 H=Z y){Q:aJ->aV->Prop}{E:aJ->aV->Prop}
  (q:∀h',(∀b o,s.heap.get? b=Z o->h'.get? b=Z o)->s.heap.get? s.heap.objs.size=aB->qW W S h' s.heap.objs.size x 0->Q (.ref s.heap.objs.size) {s with heap:=h'}):cG (Mo W) A (Lj v) Q E s:=by
 have q:=λo=>q (s.heap.push o) (λb o' e=>sV o e) (AN (cE _));cases x with
 | aM xs=>
  obtain⟨a,items,rfl,hz,ht,hr⟩:=hx.cN;obtain⟨n,ho⟩:=id ht;exact wpAny_pyIter_tuple ht.is (q _ (.aM hz ⟨n,sV _ ho⟩ (hr.cV (λ_ _ e=>e) λ_ _ e _=>sV _ e) ⟨_,Do _ rfl,rfl,rfl⟩))
 | gG lo hi=>
  obtain⟨a,rfl,hb,t,aN,w,hr⟩:=hx.cN;have h1:=Ih.mp (aO hb).1;have h2:=Ih.mp (aO hb).2;refine wpAny_pyIter_range hr (small_one (dj h1) (di h1) (dj h2) (di h2)) (q _ (.gG (left:=qr' lo hi 1) ?_ ?_))
  ·rw[rangeSize_one]
   exact⟨λh=>by rw[aZ (by simpa using h)];lia,λh=>by rw[aR (by simpa using h)];lia⟩
  ·rw[show lo+((0:O):J)=lo from Int.add_zero lo]
   exact Do _ rfl
 | ref i=>
  obtain⟨xs,hA,_⟩:=dD hn;obtain⟨a,ia,rfl,hp,hl,hr,hz⟩:=st.rL (wG hA) hx;exact wpAny_pyIter_list hl.is (q _ (.list hp ⟨_,Do _ rfl,rfl,rfl⟩))
 | _=>exact cI hn
set_option tactic.hygienic true in
theorem kh(hh:A.handled=aB)(st:St W S H s.heap)(hi:qW W S s.heap bK x k)(hI: ¬ gD S bK)(hn:zY x k H=Z y){Q:aG aJ->aV->Prop}{E:aJ->aV->Prop}
  (q:∀h' tk w,(∀b o,b≠bK->s.heap.get? b=Z o->h'.get? b=Z o)->(∀z,y=Z z->qW W S h' bK x (k+1))->Cj W S h' y w->Q w {s with heap:=h',toks:=tk}):cG (Mo W) A (pyNext (.ref bK)) Q E s:=by
 obtain⟨oI,EY,Y8⟩:=hi.has;have Sf:∀{h':bS},(∀b o,b≠bK->s.heap.get? b=Z o->h'.get? b=Z o)->TP s.heap h':=λhk a o e hf=>hk a o (λq=>Y8 (aT (EY.symm.trans (q▸e))▸hf)) e;have same:∀{h':bS},O0 bK s.heap h'->∀b o,b≠bK->s.heap.get? b=Z o->h'.get? b=Z o:=λhs b o hb e=>(hs.2 b hb).trans e;cases hi with
 | aM hz ht hr iI=>
  rename_i xs t items;rw[<-aT hn]at q;have hg:=hr.Q2 k;cases hx:(items[k]?:aG aJ) with
  | none=>
   rw[hx]at hg;cases hk:xs[k]? with
   | none=>exact wpAny_pyNext_tuple_end hh iI ht.is hx λh' he=>q h' s.toks aB (λb o hb e=>he b o hb e) (λz e=>cI (hk.symm.trans e)) (by rw[hk];exact rfl)
   | some z=>rw[hk]at hg;exact hg.elim
  | some w=>
   refine wpAny_pyNext_tuple_item iI ht.is hx λh' C5 hs=>?_;have hk:=same hs;obtain⟨n,e⟩:=ht;refine q h' s.toks _ hk (λz _=>.aM hz ⟨n,hk t _ (λq=>?_) e⟩ (hr.cV (λ_ _ e=>e) (Sf hk)) C5) (hx▸hg.cV (λ_ _ e=>e) (Sf hk));rw[q,EY]at e;exact Y8 (aT e▸ .inl ⟨rfl,_,_,rfl⟩)
 | gG hl iI=>
  rename_i lo J5 left;rw[<-aT hn]at q;by_cases cQ:lo+k<J5
  ·rw[aZ cQ]at q
   have Rg:=hl.1 cQ;refine wpAny_pyNext_range_item iI (Rg▸Int.sub_pos_of_lt (Int.lt_sub_left_of_add_lt cQ)) λh' C5 hs=>?_;refine q h' _ _ (same hs) (λz _=>.gG (left:=left-1) ⟨λh=>?_,λh=>?_⟩ ?_) (.int _ _);exact (aW (· - 1) Rg).trans (O7 ..);exact gB (Dq ((aW (· - 1) Rg).trans (O7 ..))) (Int.sub_nonpos_of_le (xn (oD.mp h)));rw[show lo+((k+1:O):J)=lo+k+1 from (BJ lo k 1).symm];exact C5
  ·rw[aR cQ]at q
   exact wpAny_pyNext_range_end hh iI (hl.2 cQ) λh' he=>q h' s.toks aB (λb o hb e=>he b o hb e) (λz e=>cI e) rfl
 | list hp iI=>
  rename_i l;obtain⟨xs,hA,hn⟩:=dD hn;obtain⟨l',ia,e1,Bw,xM,hr,hz⟩:=st.rL (wG hA) (.ref hp);rw[<-Cc e1]at xM;rw[<-aT hn]at q;have hg:=hr.Q2 k;cases hx:(ia[k]?:aG aJ) with
  | none=>
   rw[hx]at hg;cases hk:xs[k]? with
   | none=>exact wpAny_pyNext_list_end hh iI xM.is hx λh' he=>q h' s.toks aB (λb o hb e=>he b o hb e) (λz e=>cI (hk.symm.trans e)) (by rw[hk];exact rfl)
   | some z=>rw[hk]at hg;exact hg.elim
  | some w=>
   refine wpAny_pyNext_list_item iI xM.is hx λh' C5 hs=>?_;exact q h' s.toks _ (same hs) (λz _=>.list hp C5) (hx▸hg.cV (λ_ _ e=>e) (Sf (same hs)))
end
noncomputable def kO(env:fM):Y (aU×jM)->Y (aU×bC)->Y (aU×bC)
 | [],acc=>acc
 | (n,k)::r,acc=>if k== .free then kO env r ((n,(env.cells.lookup n).getD 0)::acc) else kO env r acc
theorem dp'(f:aU×jM->Y (aU×bC)->rW (ForInStep (Y (aU×bC))))
  (hf:∀n k cs,f (n,k) cs=if k== .free then (do let c <- cellOf env n;pure (.yield ((n,c)::cs))) else pure (.yield cs)) (names:Y (aU×jM)):
  ∀(acc:Y (aU×bC)),(∀y∈names,y.2= .free->∃c,env.cells.lookup y.1=Z c)->forIn names acc f=pure (kO env names acc):=by
 induction names with
 | nil=>exact λacc _=>rfl
 | cons y r ih=>
  intro acc h;obtain⟨n,k⟩:=y;rw[List.forIn_cons,hf];have hr:=λacc=>ih acc λy hy=>h y (tX _ hy);show _=pure (if k== .free then kO env r ((n,(env.cells.lookup n).getD 0)::acc) else kO env r acc);cases hk:k==FB with
  | true=>
   obtain⟨c,hc⟩:=h (n,k) vG (kB.mp hk);have hc:env.cells.lookup n=Z c:=hc;have e:cellOf env n=pure c:=by unfold cellOf;rw[hc]
   rw[hc];simp only[G7,e,pure_bind,b9];exact hr _
  | false=>
   simp only[VA,Pa,pure_bind];exact hr _
theorem XO(h:∀y∈scope.names,y.2= .free->∃c,env.cells.lookup y.1=Z c):PY scope env=pure (kO env scope.names []):=by simp only[PY];rw[dp' _ (λn k cs=>by cases hk:k==FB<;>simp [hk]) scope.names [] h];rfl
theorem QN{y:aU×jM}{r:Y (aU×jM)}{acc:Y (aU×bC)}: kO env (y::r) acc=if y.2== .free then kO env r ((y.1,(env.cells.lookup y.1).getD 0)::acc) else kO env r acc:=rfl
theorem dn'{names:Y (aU×jM)}{n:aU}{c:bC}:∀{acc:Y (aU×bC)},(n,c)∈kO env names acc->(n,c)∈acc\/((n,FB)∈names/\c=(env.cells.lookup n).getD 0):=by
 induction names with
 | nil=>exact λh=>.inl h
 | cons y r ih=>
  intro acc h;rw[QN]at h;cases hk:y.2==FB with
  | true=>
   rw[hk]at h;rcases ih h with h1|⟨h1,h3⟩
   ·rcases oE.mp h1 with h1|h1
    ·have e:=Prod.mk.inj h1
     rw[e.1,e.2];exact .inr ⟨kB.mp hk▸vG,rfl⟩
    ·exact .inl h1
   ·exact .inr ⟨tX _ h1,h3⟩
  | false=>
   rw[hk]at h;exact (ih h).imp id λh1=>⟨tX _ h1.1,h1.2⟩
theorem dl'{names:Y (aU×jM)}{x:aU×bC}:∀{acc:Y (aU×bC)},x∈acc->x∈kO env names acc:=by
 induction names with
 | nil=>exact λh=>h
 | cons y r ih=>
  intro acc h;rw[QN];cases y.2==FB;exact ih h;exact ih (tX _ h)
theorem dm'{names:Y (aU×jM)}{n:aU}:∀{acc:Y (aU×bC)},(n,FB)∈names->(n,(env.cells.lookup n).getD 0)∈kO env names acc:=by
 induction names with
 | nil=>exact λh=>(nA h).elim
 | cons y r ih=>
  intro acc h;rw[QN];rcases oE.mp h with h|h
  ·rw[<-h];exact dl' vG
  ·cases y.2==FB<;>exact ih h
theorem hZ'{n:aU}{c:α}{l:Y (aU×α)}(h:(n,c)∈l):∃c',l.lookup n=Z c':=by
 induction l with
 | nil=>exact (nA h).elim
 | cons y r ih=>
  rw[show (y::r).lookup n=_ from I5];cases hb:n==y.1 with
  | true=>exact⟨_,rfl⟩
  | false=>
   rcases oE.mp h with h|h
   rw[<-h,Ce]at hb;exact dA hb.symm;exact ih h
theorem lc(hk:env.scope.kind= .function)(hn:env.scope.names=K.kn):(Pd scope env).names=oN K.kn scope.names:=by unfold Pd oN Iy;rw[hk,hn];rfl
noncomputable def OH(kn:Y (aU×jM))(y:aU×jM):jM:=if (y.2== .free&&u&&kn.lookup y.1==Z .cell) then .cell else y.2
theorem lf{names:Y (aU×jM)}{k:jM}(h:(oN kn names).lookup x=Z k):rA (λy=>y∈names) (λy=>y.1=x) (λy=>OH kn y=k):=by
 induction names with
 | nil=>exact cI h
 | cons y r ih=>
  have e:oN kn (y::r)=(y.1,OH kn y)::oN kn r:=by
   obtain⟨n,k⟩:=y;show (if (k== .free&&u&&kn.lookup n==Z .cell)=u then (n,yz) else (n,k))::oN kn r=(n,if (k== .free&&u&&kn.lookup n==Z .cell)=u then .cell else k)::oN kn r;cases (k== .free&&u&&kn.lookup n==Z .cell)<;>rfl
  rw[e,I5]at h;cases hb:x==y.1 with
  | true=>
   rw[hb]at h;exact⟨y,vG,(kB.mp hb).symm,aT h⟩
  | false=>
   rw[hb]at h;obtain⟨y,h1,h2,h3⟩:=ih h;exact⟨y,tX _ h1,h2,h3⟩
theorem kA'{names:Y (aU×jM)}(hc:∀y∈names,y.2 ≠ .cell)(h:(oN kn names).lookup x=Z .cell):(x,FB)∈names/\kn.lookup x=Z .cell:=by
 obtain⟨⟨n,k⟩,h1,rfl,h3⟩:=lf h;unfold OH at h3;by_cases hq:(k== .free&&u&&kn.lookup n==Z .cell)=u
 ·have h4:=aO hq
  exact⟨kB.mp (aO h4.1).1▸h1,kB.mp h4.2⟩
 ·rw[aR hq]at h3
  exact (hc _ h1 h3).elim
theorem kB'{names:Y (aU×jM)}(h:(oN kn names).lookup x=Z .local):(x,NameKind.local)∈names:=by
 obtain⟨⟨n,k⟩,h1,rfl,h3⟩:=lf h;unfold OH at h3;by_cases hq:(k== .free&&u&&kn.lookup n==Z .cell)=u;rw[aZ hq]at h3;exact Vh h3
 ·rw[aR hq]at h3
  exact h3▸h1
structure D4(K:KC)(scope:oG)(x:aU)(dN:O)(iter:aK):Prop where
 kind:scope.kind= .function
 cell:∀y∈scope.names,y.2 ≠ .cell
 D:∀y∈scope.names,y.2= .local->scope.names.lookup y.1=Z .local/\(y.1=x\/y.1∉K.vn)
 tf:scope.names.lookup x=Z .local
 te:K.vn[dN]?=Z x
 free:∀y∈scope.names,y.2= .free->K.kn.lookup y.1=Z .cell
 set:B5 iter=aE
theorem MN{iter:aK}(h:MM K scope x dN iter=u):D4 K scope x dN iter:=by simp only[MM,LM,yL,kB,Dy,Dm,Ov,ne_eq,List.contains_eq_mem,decide_eq_false_iff_not]at h;obtain⟨⟨⟨⟨⟨⟨h1,h2⟩,h3⟩,h4⟩,h5⟩,h6⟩,h7⟩:=h;exact⟨h1,h2,λy hy hl=>(h3 y hy).elim (λh=>absurd hl h) id,h4,h5,λy hy hf=>(h6 y hy).elim (λh=>absurd hf h) id,h7⟩
theorem FrOk.comp{iter:aK}{v:V}{m:aU->aG aJ}(f:FrOk W S h K env I)(c:D4 K scope x dN iter)(nd:K.vn.Nodup)
  (hC: ¬ gD S C/\W.h0.get? C=aB) (Jz:∀z c,env.cells.lookup z=Z c->c≠C) (hn:h.Ns C m) (hm:m x=Z y) (hv:cB W S h v y):
  FrOk W S h {K with kn:=oN K.kn scope.names} (uB scope (kO env scope.names []) C env) (I.set dN (Z v)):=by
 have nV:∀z c',(kO env scope.names []).lookup z=Z c'->env.cells.lookup z=Z c':=λz c' hz=>by
  rcases dn' (FL hz) with h1|⟨h1,h3⟩
  ·exact (nA h1).elim
  ·obtain⟨XD,aN,h4,_⟩:=f.cell z (c.free _ h1 rfl)
   rw[h4]at h3;simp only[b9]at h3;rw[h4,h3]
 refine⟨c.kind,lc f.kind f.kn,f.C3,f.blt,⟨m,hn,λi z w h1 h2 h3=>?_⟩,λz hz=>?_,hC,λz c' hz=>?_⟩
 ·have hz:z=x:=by
   rcases (c.D _ (kB' h3) rfl).2 with hz|hz
   exact hz;exact absurd (oF h1) hz
  subst hz;have hi:i=dN:=by
   have e1:=iT.mp h1;have e2:=iT.mp c.te;obtain⟨l1,e1⟩:=e1;obtain⟨l2,e2⟩:=e2;exact (Va nd).mp (e1.trans e2.symm)
  subst hi;have:w=v:=by
   rw[VX]at h2;cases hρ:I[i]? with
   | none=>rw[hρ]at h2;cases h2
   | some aN=>rw[hρ]at h2;cases h2;rfl
  subst this;exact⟨y,hm,hv⟩
 ·obtain⟨h1,h2⟩:=kA' c.cell hz
  obtain⟨c',aN,h4,h5,h6⟩:=f.cell z h2;have lY:=dm' (env:=env) (acc:=[]) h1;obtain⟨XD,Yx⟩:=hZ' lY;have:=nV z XD Yx;rw[h4]at this;cases this;refine⟨c',aN,Yx,h5,λi w h7 h8=>h6 i w h7 ?_⟩;have hi:dN≠i:=by
   intro q;subst q;have e1:=c.te;rw[show ({K with kn:=oN K.kn scope.names}: KC).vn=K.vn from rfl]at h7;rw[e1]at h7;cases h7;have:(oN K.kn scope.names).lookup x=Z .local:=by
    have:=j8 (env:=env) c.tf;rw[<-lc f.kind f.kn];exact this
   rw[this]at hz;cases hz
  rw[kL hi]at h8;exact h8
 ·have:=nV z c' hz
  obtain⟨h1,h2,h3,h4⟩:=f.uJ z c' this;exact⟨h1,h2,Jz z c' this,h4⟩
theorem qW.iter{x:V}(i:qW W S s.heap bK x k){Q:aJ->aV->Prop}{E:aJ->aV->Prop}(q:Q (.ref bK) s):cG (Mo W) A (Lj (.ref bK)) Q E s:=by
 cases i with
 | list hp hi=>exact wpAny_pyIter_listiter hi q
 | aM hz ht hr hi=>exact wpAny_pyIter_tupleiter hi q
 | gG hl iI=>exact wpAny_pyIter_rangeiter iI q
theorem qW.lL{x:V}(i:qW W S h bK x k)(hm:∀(j:O) p,S[j]?=Z p->μ'[j]?=Z p)(tp:TP h h')(hk:∀o,h.get? bK=Z o->h'.get? bK=Z o):qW W μ' h' bK x k:=by
 cases i with
 | list hp hi=>obtain⟨o,e,r⟩:=hi;exact .list (hm _ _ hp) ⟨o,hk o e,r⟩
 | aM hz ht hr hi=>
  obtain⟨o,e,r⟩:=hi;obtain⟨n,e2⟩:=ht;exact .aM hz ⟨n,tp _ _ e2 (.inl ⟨rfl,_,n,rfl⟩)⟩ (hr.cV hm tp) ⟨o,hk o e,r⟩
 | gG hl iI=>exact .gG hl (hk _ iI)
theorem hJ'{it v:aJ}: Pb (.Name x px) it v=pure ():=rfl
section
variable{cK:bC}
def X3(bK cK C:bC):bC->Prop:=λa=>a=bK\/a=cK\/a=C
structure wU(W:Wd)(μ0:Mp)(h0:bS)(bK cK C:bC)(it:V)(k:O)(acc:Y V)(S:Mp)(H:Hp)(h:bS):Prop where
 mv:Mv W (X3 bK cK C) μ0 h0 S H h
 it:qW W S h bK it k
 acc:rA (λitems=>oH h cK items) (λitems=>cX W S h acc items.toList) (λitems=>acc.length<=aF)
 ns:∃m,h.Ns C m
 own:A3 (¬ gD S bK) (¬ gD S cK) (¬ gD S C)
structure Lq(h0:bS)(bK cK C:bC):Prop where
 i0:h0.get? bK=aB
 d0:h0.get? cK=aB
 c0:h0.get? C=aB
 ic:bK≠C
 id:bK≠cK
 dc:cK≠C
theorem Ns.xI{m:aU->aG aJ}(n:h.Ns C m){o:gQ}(e:h.get? C=Z o): ¬ lU o:=by obtain⟨o',es,ep,e',hd,_⟩:=n;exact aT (e'.symm.trans e)▸GS hd
theorem Cn{μ0:Mp}{h0:bS}{it:V}(c:wU W μ0 h0 bK cK C it k acc S H h)(a:bC)(o:gQ)(ha:X3 bK cK C a)(e:h.get? a=Z o): ¬ lU o:=by
 rcases ha with h|h|h<;>rw[h]at e
 ·obtain⟨o',e',hf⟩:=c.it.has
  exact aT (e'.symm.trans e)▸hf
 ·obtain⟨items,⟨n,e'⟩,_⟩:=c.acc
  exact aT (e'.symm.trans e)▸Ke rfl
 ·obtain⟨m,hm⟩:=c.ns
  exact Ns.xI hm e
theorem u1{x:aJ}{Q:aJ->aV->Prop}{E:aJ->aV->Prop}(hl:oH s.heap cK items)(hz:items.size<=AR)
  (hQ:∀h',oH h' cK (items.push x)->O0 cK s.heap h'->Q .none {s with heap:=h'}):cG (Mo W) A (call (.builtin "list.append") [.ref cK,x]) Q E s:=
 wpAny_list_append_plain (let ⟨n,e⟩:=hl;⟨n,e⟩) (λh' hp hs=>hQ h' (let ⟨n,e⟩:=hp;⟨n,e⟩) hs) hz
noncomputable def sv(ifs:Y aK)(e:fM):rW aC:=forIn ifs u λc r=>if r=u then do let ok <- isTrue c e (eval c e);pure (xa ok) else pure (xa r)
def HI(W:Wd)(A:dO)(K:KC)(scope:oG)(env:fM)(I:cA)(dN:O)(ifs:Y aK)(dY:aK)(gK:V->Hp->(aG V->Hp->Prop)->Prop):Prop:=
 ∀{C v S H} {s:aV} {P:aG V->Hp->Prop},FrOk W S s.heap {K with kn:=oN K.kn scope.names} (uB scope (kO env scope.names []) C env) (I.set dN (Z v))->St W S H s.heap->gK v H P->
  ∀(Q:aG aJ->aV->Prop) (E:aJ->aV->Prop),(∀r H',P r H'->∀μ' h' tk y,Mv W X0 S s.heap μ' H' h'->Cj W μ' h' r y->Q y {s with heap:=h',toks:=tk})->
   cG (Mo W) A (sv ifs (uB scope (kO env scope.names []) C env)) (λok s'=>if ok=u then cG (Mo W) A (eval dY (uB scope (kO env scope.names []) C env)) (λw s''=>Q (Z w) s'') E s' else Q aB s') E s
section
variable{gK:V->Hp->(aG V->Hp->Prop)->Prop}{P:PE}
theorem wU.next(b:Lq s.heap bK cK C){H:Hp}(st:St W S H s.heap)(ca:wU W S s.heap bK cK C nU k acc μk Hk hk)(nT:∀b o,b≠bK->hk.get? b=Z o->h'.get? b=Z o)(iI:qW W μk h' bK nU j):wU W S s.heap bK cK C nU j acc μk Hk h':=by
 have tp:TP hk h':=λa o e hf=>nT a o (λq=>Cn ca a o (.inl q) e hf) e;refine⟨ca.mv.xB (λa=>a=bK) (λa ha=>ha▸⟨ca.own.1,(st.sQ b.i0).2,b.i0⟩) (λa o ha e=>Cn ca a o (.inl ha) e) (λb o hb e=>nT b o hb e),iI,?_,?_,ca.own⟩
 ·obtain⟨items,⟨n,e⟩,hr,hz⟩:=ca.acc
  exact⟨items,⟨n,nT cK _ b.id.symm e⟩,hr.cV (λ_ _ e=>e) tp,hz⟩
 ·obtain⟨m,hm⟩:=ca.ns
  exact⟨m,Ns.lL hm λo e=>nT C o b.ic.symm e⟩
theorem wU.fi(ca:wU W S s.heap bK cK C nU k acc μk Hk hk)(m:Mv W X0 μk hk μ' H' h'):wU W S s.heap bK cK C nU k acc μ' H' h':=by have tp:=m.tp ca.mv.st;obtain⟨items,⟨n,e⟩,hr,hz⟩:=ca.acc;obtain⟨mm,hm⟩:=ca.ns;obtain⟨oI,hI,_⟩:=ca.it.has;obtain⟨oC,hC⟩:=Ns.has hm;exact⟨ca.mv.trans (m.LH λa o _ q=>q.elim),ca.it.lL m.mp tp (λo e=>m.keep bK o ca.own.1 (λq=>q) e),⟨items,⟨n,m.keep cK _ ca.own.2 (λq=>q) e⟩,hr.cV m.mp tp,hz⟩,⟨mm,Ns.lL hm λo e=>m.keep C o ca.own.3 (λq=>q) e⟩,m.jA ca.own.1 hI,m.jA ca.own.2 e,m.jA ca.own.3 hC⟩
theorem du'{go:O×Y V×Hp->Prop}{N:aV->Prop}{bG:aV->Prop}{E:aJ->aV->Prop}(hh:A.handled=aB)(nd:K.vn.Nodup)(b:Lq s.heap bK cK C)(f:FrOk W S s.heap K env I)(st:St W S H s.heap)(c:D4 K scope x dN dZ)
  (ht:HI W A K scope env I dN ifs iX gK) (ca:wU W S s.heap bK cK C nU k acc μk Hk hk) (w:Aa gK nU P (k,acc,Hk) go)
  (fL:∀{k acc Hn μ' h' tk},go (k,acc,Hn)->wU W S s.heap bK cK C nU k acc μ' Hn h'->N {s with heap:=h',toks:=tk}) (Al:∀{h' tk},P (.ref Hk.length) (Hk++[.list acc])->(∀b o,b≠bK->hk.get? b=Z o->h'.get? b=Z o)->bG {s with heap:=h',toks:=tk}):
  cG (Mo W) A (pyNext (.ref bK)) (λr s₁=>match r with
   | none=>bG s₁
   | some v=>cG (Mo W) A (assign (.Name x px) (uB scope (kO env scope.names []) C env) v) (λ_ s₂=>
     cG (Mo W) A (sv ifs (uB scope (kO env scope.names []) C env)) (λok s₃=>
      if ok=u then cG (Mo W) A (eval iX (uB scope (kO env scope.names []) C env)) (λx s₄=>cG (Mo W) A (call (.builtin "list.append") [.ref cK,x]) (λ_ s₅=>N s₅) E s₄) E s₃ else N s₃) E s₂) E s₁) E {s with heap:=hk,toks:=tk}:=by
 obtain⟨y,hy,w⟩:=w.ok;refine kh (s:= {s with heap:=hk,toks:=tk}) hh ca.mv.st ca.it ca.own.1 hy λh1 tk1 aN jK M5 rI=>?_;cases y with
 | none=>
  rw[show aN=aB from rI];exact Al w jK
 | some z=>
  obtain⟨v,hv,Z4⟩:fQ (λv=>aN=Z v) (λv=>cB W μk h1 z v):=by
   cases aN with
   | none=>exact rI.elim
   | some v=>exact⟨v,rfl,rI⟩
  rw[hv];have Bc:=ca.next b st jK (M5 z rfl);clear hv rI M5 jK hy ca;obtain⟨mC,ZR⟩:=Bc.ns;refine Pg (s9 (env:=uB scope (kO env scope.names []) C env) (j8 c.tf) ZR (λh2 F5 EZ=>?_) (by simp [uB,Pd,c.kind]));have Ji:wU W S s.heap bK cK C nU (k+1) acc μk Hk h2:=by
   have k2:∀b o,b≠C->h1.get? b=Z o->h2.get? b=Z o:=λb o hb e=>(EZ.2 b hb).trans e;have tp:TP h1 h2:=λa o e hf=>k2 a o (λq=>Cn Bc a o (.inr (.inr q)) e hf) e;obtain⟨items,⟨n,e⟩,hr,hz⟩:=Bc.acc;exact⟨Bc.mv.xB (λa=>a=C) (λa ha=>ha▸⟨Bc.own.3,(st.sQ b.c0).2,b.c0⟩) (λa o ha e=>Cn Bc a o (.inr (.inr ha)) e) (λb o hb e=>k2 b o hb e),Bc.it.lL (λ_ _ e=>e) tp (λo e=>k2 bK o b.ic e),⟨items,⟨n,k2 cK _ b.dc e⟩,hr.cV (λ_ _ e=>e) tp,hz⟩,⟨_,F5⟩,Bc.own⟩
  have tx:TP h1 h2:=λa o e hf=>(EZ.2 a (λq=>Cn Bc a o (.inr (.inr q)) e hf)).trans e;have Mw:∀a,X3 bK cK C a->s.heap.get? a=aB:=λa ha=>by rcases ha with h|h|h<;>rw[h]<;>first|exact b.i0|exact b.d0|exact b.c0
  have Jz:∀z c',env.cells.lookup z=Z c'->¬ X3 bK cK C c':=λz c' hz q=>by
   obtain⟨_,_,_,o,ho⟩:=f.uJ z c' hz;exact cI ((Mw c' q).symm.trans ho)
  have Yo: ¬ X3 bK cK C env.locals:=λq=>by
   obtain⟨m,hm,_⟩:=f.ns;obtain⟨o,ho⟩:=Ns.has hm;exact cI ((Mw _ q).symm.trans ho)
  have fc:=(f.fg st Ji.mv (λa o ha e=>cI ((Mw a ha).symm.trans e)) Yo Jz).comp c nd (C:=C) (v:=z) (y:=v) ⟨Ji.own.3,(st.sQ b.c0).2⟩ (λzz c' SK q=>Jz zz c' SK (.inr (.inr q))) F5 (by simp) (Z4.cV (λ_ _ e=>e) tx);clear Mw Jz Yo tx EZ F5 Z4 Bc ZR f c nd;refine nG (ht fc (s:= {s with heap:=h2,toks:=_}) Ji.mv.st w (λy s₅=>∃r Hn μ' h5 Er,s₅= {s with heap:=h5,toks:=Er}/\Mv W X0 μk h2 μ' Hn h5/\Cj W μ' h5 r y/\(match r with|some v=>acc.length<aF/\go (k+1,acc++[v],Hn)|none=>go (k+1,acc,Hn))) E
   (λr Hn p μ' h5 Er y m5 Hv=>⟨r,Hn,μ',h5,Er,rfl,m5,Hv,p⟩)) (λok s₅ vW=>?_) λ_ _ e=>e
  cases ok with
  | false=>
   obtain⟨r,Hn,μ',h5,Er,rfl,m5,Hv,p⟩:=vW;cases r with
   | none=>exact fL p (Ji.fi m5)
   | some=>exact Hv.elim
  | true=>
   refine nG vW (λw5 s₆ h6=>?_) λ_ _ e=>e;obtain⟨r,Hn,μ',h5,Er,rfl,m5,Hv,p⟩:=h6;cases r with
   | none=>exact cI (show aB=Z w5 from Hv.symm)
   | some aN=>
    have EK:=Ji.fi m5;obtain⟨gO',J8,Zq,hz5⟩:=EK.acc;have hz:acc.length<16000000:=p.1;refine u1 J8 (vA (Zq.size▸lO hz)) λh6 F1 KD=>?_;have k6:∀b o,b≠cK->h5.get? b=Z o->h6.get? b=Z o:=λb o hb e=>(KD.2 b hb).trans e;have Uk:TP h5 h6:=λa o e hf=>k6 a o (λq=>Cn EK a o (.inr (.inl q)) e hf) e;refine fL p.2 ⟨?_,EK.it.lL (λ_ _ e=>e) Uk (λo e=>k6 bK o b.id e),⟨gO'.push w5,F1,?_,by rw[bA,KX];exact hz⟩,?_,EK.own⟩;exact EK.mv.xB (λa=>a=cK) (λa ha=>ha▸⟨EK.own.2,(st.sQ b.d0).2,b.d0⟩) (λa o ha e=>Cn EK a o (.inr (.inl ha)) e) (λb o hb e=>k6 b o hb e)
    ·rw[vx]
     exact (Zq.cV (λ_ _ e=>e) Uk).append (.cons (cB.cV (λ_ _ e=>e) Uk Hv) .nil)
    ·obtain⟨m6,hm6⟩:=EK.ns
     exact⟨m6,Ns.lL hm6 λo e=>k6 C o b.dc.symm e⟩
end
end
section
variable{P:E->aK->Prop}{gK:V->Hp->(aG V->Hp->Prop)->Prop}{pos:cZ}{vs:Y aK}
theorem Kd{e:aK}(h:B5 e=aE)(env:fM):∀x,foldedSetIterable e env x=pure x:=by intro x;cases e<;>first|rfl|exact dA h.symm
theorem dt'{cK:bC}(b:Lq s.heap bK cK C)(st:St W S H s.heap)(ca:wU W S s.heap bK cK C nU k acc μk Hk hk)(nT:∀b o,b≠bK->hk.get? b=Z o->h'.get? b=Z o):
  A4 (Mv W X0 S s.heap (μk++[(cK,aB)]) (Hk++[.list acc]) h') (cB W (μk++[(cK,aB)]) h' (.ref Hk.length) (.ref cK)) (∃m,h'.Ns C m) (¬ gD (μk++[(cK,aB)]) C):=by
 have m1:=ca.mv.xB (h':=h') (λa=>a=bK) (λa ha=>ha▸⟨ca.own.1,(st.sQ b.i0).2,b.i0⟩) (λa o ha e=>Cn ca a o (.inl ha) e) (λb o hb e=>nT b o hb e);obtain⟨items,⟨n,e⟩,hr,hz⟩:=ca.acc;obtain⟨m,hm⟩:=ca.ns;have hl:oH h' cK items:=⟨n,nT cK _ b.id.symm e⟩;have tp:TP hk h':=λa o e hf=>nT a o (λq=>Cn ca a o (.inl q) e hf) e;have m2:Mv W X0 S s.heap μk Hk h':=m1.LH λa o e q=>by rcases q with h|h|h<;>(rw[h]at e;first|exact cI (b.i0.symm.trans e)|exact cI (b.d0.symm.trans e)|exact cI (b.c0.symm.trans e))
 refine⟨Mv.P0 st m2 (λa ha=>uT ha▸⟨b.d0,ca.own.2⟩) (.list hz hl ((hr.cV (λ_ _ e=>e) tp).cV KY (λ_ _ e _=>e))) (λa ha o e=>?_),.ref (p:=(cK,aB)) (by rw[<-m2.st.len];exact Jv),⟨m,Ns.lL hm λo e=>nT C o b.ic.symm e⟩,λq=>?_⟩
 ·obtain⟨n,e'⟩:=hl
  rw[uT ha,e']at e;exact aT e▸Ke rfl
 ·exact (N2 q).elim ca.own.3 λh=>b.dc (uT h).symm
theorem XS{v:aJ}{P:PE}{RR:aJ->bC->JG->aV->Prop}{E:aJ->aV->Prop}
  (hh:A.handled=aB) (nd:K.vn.Nodup) (c:D4 K scope x dN dZ) (f:FrOk W S s.heap K env I) (st:St W S H s.heap) (hv:cB W S s.heap nU v) (ht:HI W A K scope env I dN ifs iX gK) (w:oB (Aa gK nU P) (0,[],H))
  (hR:∀{cK C h' tk μ' Hn vs},P (.ref Hn.length) (Hn++[.list vs])->A4 (Mv W X0 S s.heap (μ'++[(cK,aB)]) (Hn++[.list vs]) h') (cB W (μ'++[(cK,aB)]) h' (.ref Hn.length) (.ref cK)) (∃m,h'.Ns C m) (¬ gD (μ'++[(cK,aB)]) C)->s.heap.get? C=aB->RR (.ref cK) C (.ok .next) {s with heap:=h',toks:=tk}):
  cG (Mo W) A (Lj v) (λit s₂=>cG (Mo W) A (newList []) (λacc s₃=>cG (Mo W) A (newFunctionEnv scope env.globals (kO env scope.names []) [] env.qual aB .none (Z env)) (λXK s₄=>JK (Mo W) A (.compStart (.ListComp iX [⟨.Name x px,dZ,ifs,0⟩] scope pos) 0 it acc {XK with scope:=Pd scope env}) (RR acc XK.locals) s₄) E s₃) E s₂) E s:=by
 obtain⟨n,eV,j0,jt⟩:=w;obtain⟨y0,hy,_⟩:=(jt n _ j0).ok;refine kg st hv hy λh1 jK hI iI=>?_;clear hy hv;generalize ff':s.heap.objs.size=bK at hI iI ⊢;refine WU ?_ (nD _);refine wpAny_newFunctionEnv c.cell (λy hy=>(nA hy).elim) (λh3 Rp R6=>?_) c.kind;dsimp only at Rp R6 ⊢;generalize Q8:h1.objs.size=cK at *;have Q7:h1.get? cK=aB:=Q8▸AN (cE _);have RX:(h1.push {cls:=.type "list",dict:=aB,data:=.seq ([]:Y aJ).toArray}).get? cK=Z {cls:=.type "list",dict:=aB,data:=.seq #[]}:=by rw[<-Q8];exact Do _ rfl
 have jU:∀b o,h1.get? b=Z o->(h1.push {cls:=.type "list",dict:=aB,data:=.seq ([]:Y aJ).toArray}).get? b=Z o:=λb o e=>sV _ e;generalize h1.push {cls:=.type "list",dict:=aB,data:=.seq ([]:Y aJ).toArray}= h2 at *;generalize Yl:h2.objs.size=C at *;have uO:h2.get? C=aB:=Yl▸AN (cE _);have Np:∀{a:bC} {g g':bS},(∀b o,g.get? b=Z o->g'.get? b=Z o)->g'.get? a=aB->g.get? a=aB:=λ{a g g'} hk hn=>by
  cases e:g.get? a with
  | none=>rfl
  | some o=>exact cI (hn.symm.trans (hk a o e))
 have tO:∀b o,b≠C->h2.get? b=Z o->h3.get? b=Z o:=λb o hb e=>R6.extBut b o hb (sV _ e);obtain⟨oI,EY,_⟩:=iI.has;have b:Lq s.heap bK cK C:=⟨hI,Np jK Q7,Np (λb o e=>jU b o (jK b o e)) uO,λq=>cI (uO.symm.trans (q▸jU _ _ EY)),λq=>cI (Q7.symm.trans (q▸EY)),λq=>cI (uO.symm.trans (q▸RX))⟩;have start:wU W S s.heap bK cK C nU 0 [] S H h3:=by
  have mk:=Mv.of_keep st (h':=h3) λb' o e=>tO b' o (λq=>cI (b.c0.symm.trans (q▸e))) (jU b' o (jK b' o e));refine⟨mk.LH (λa o _ q=>q.elim),iI.lL (λ_ _ e=>e) (λa o e hf=>tO a o (λq=>cI ((Np jU uO).symm.trans (q▸e))) (jU a o e)) (λo e=>tO bK o b.ic (jU bK o e)),⟨#[],⟨0,tO cK _ b.dc RX⟩,.nil,nD _⟩,⟨_,Rp⟩,(st.sQ b.i0).1,(st.sQ b.d0).1,(st.sQ b.c0).1⟩
 clear ff' Q8 Yl Q7 RX jU uO Np tO EY jK iI R6 Rp;have loop:∀s₄:aV,s₄.gens=s.gens->s₄.drawn=s.drawn->s₄.os=s.os->s₄.heap=h3->JK (Mo W) A (.compLoop (.ListComp iX [⟨.Name x px,dZ,ifs,0⟩] scope pos) 0 (.ref bK) (.ref cK) (uB scope (kO env scope.names []) C env)) (RR (.ref cK) C) s₄:=by
  intro s₄ g1 g2 g3 g4;refine codeAny_compLoop_tests (λn s'=>∃k acc Hk μk hk tk,s'= {s with heap:=hk,toks:=tk}/\eV n (k,acc,Hk)/\wU W S s.heap bK cK C nU k acc μk Hk hk) ?_ n ⟨0,[],H,S,h3,s₄.toks,by obtain⟨_,_,_,_,_⟩:=s₄;simp_all,j0,start⟩ (λv=>hJ');rintro n s' ⟨k,acc,Hk,μk,hk,tk,rfl,jn,ca⟩;exact du' hh nd b f st c ht ca (jt n _ jn) (λ{k acc Hn μ' h' tk} fL ca'=>let ⟨m,hm,hj⟩:=fL;⟨m,hm,k,acc,Hn,μ',h',tk,rfl,hj,ca'⟩) λp nT=>hR p (dt' b st ca nT) b.c0
 exact codeAny_compStart_list (loop _ rfl rfl rfl rfl) ((start.it).iter (s:= {s with heap:=h3,toks:=_}) (loop _ rfl rfl rfl rfl))
theorem uf(h:∀C v,dM W A cl {K with kn:=oN K.kn scope.names} (uB scope (kO env scope.names []) C env) (I.set dN (Z v)) dY iX):
  HI W A K scope env I dN [] iX (λv hh q=>wE W.G cl dY (I.set dN (Z v)) hh λy h'=>q (Z y) h'):=λ{C v S H s P} f st w Q E q=>
 wpAny_tests_nil (h C v f st w _ _ λy H' p μ' h' tk w m hw=>q (Z y) H' p μ' h' tk (Z w) m hw)
theorem ue{c:E}{c':aK}(hc:∀C v,jC W A cl {K with kn:=oN K.kn scope.names} (uB scope (kO env scope.names []) C env) (I.set dN (Z v)) c c')
  (h:∀C v,dM W A cl {K with kn:=oN K.kn scope.names} (uB scope (kO env scope.names []) C env) (I.set dN (Z v)) dY iX):
  HI W A K scope env I dN [c'] iX (λv hh q=>wE W.G cl c (I.set dN (Z v)) hh λt An=>bZ (tW t) λb=>cW b (wE W.G cl dY (I.set dN (Z v)) An λy h'=>q (Z y) h') (q aB An)):=λ{C v S H s P} f st w Q E q=>by
 refine wpAny_tests_one ((hc C v).tv f st w _ _ λb H1 w1 μ1 h1 tk1 m1=>?_);cases b with
 | true=>exact h C v (f.mv st m1) m1.st w1 _ _ λy H' p μ' h' tk w m hw=>q (Z y) H' p μ' h' tk (Z w) (m1.trans m) hw
 | false=>exact q aB H1 w1 μ1 h1 tk1 aB m1 rfl
theorem XT(hh:A.handled=aB)(nd:K.vn.Nodup)(c:D4 K scope x dN dZ)(iI:dM W A cl K env I it dZ)(ht:HI W A K scope env I dN ifs iX gK)
  {H:Hp} {S:Mp} {s:aV} {P:PE} (f:FrOk W S s.heap K env I) (st:St W S H s.heap) (w:wE W.G cl it I H λx h=>oB (Aa gK x P) (0,[],h)):
  HC W A s S (eval (.ListComp iX [⟨.Name x px,dZ,ifs,0⟩] scope pos) env) P:=by
 intro Q E q;have Mz:PY scope env=pure (kO env scope.names []):=XO λy hy hf=>by
  obtain⟨c',aN,h1,_⟩:=f.cell y.1 (c.free y hy hf);exact⟨c',h1⟩
 rw[eval_ListComp];refine l9 (use:=aB) rfl (Kd c.set env) Mz c.kind (λy hy hl=>(c.D y hy hl).1) (iI f st w _ _ λnU H1 w1 μ1 h1 tk1 v m1 hv=>?_);refine XS (RR:=λacc C=>compPost (Mo W) A E aB Q acc C) hh nd c (f.mv st m1) m1.st hv ht w1 ?_;intro cK C h' tk μ' Hn vs p cd sJ;obtain⟨m,NA⟩:=cd.3;refine⟨m,NA,λAi Zt=>?_⟩;have nf:∀{a o},a=C->h'.get? a=Z o->¬ lU o:=λha e=>Ns.xI NA (ha▸e);have ma:=cd.1.xB (λa=>a=C) (λa ha=>ha▸⟨cd.4,(m1.st.sQ sJ).2,sJ⟩) (λa o ha e=>nf ha e) (h':=Ai) (λb o hb e=>(Zt.2 b hb).trans e);exact q _ _ p _ Ai tk _ (m1.trans ma) (cd.2.cV (λ_ _ e=>e) λa o e hf=>(Zt.2 a (λq=>nf q e hf)).trans e)
theorem ah'(hh:A.handled=aB)(nd:K.vn.Nodup)(c:D4 K scope x dN dZ)(iI:dM W A cl K env I it dZ)
  (h:∀C v,dM W A cl {K with kn:=oN K.kn scope.names} (uB scope (kO env scope.names []) C env) (I.set dN (Z v)) dY iX):dM W A cl K env I (.comp dY dN it) (.ListComp iX [⟨.Name x px,dZ,[],0⟩] scope pos):=λf st w=>
 XT hh nd c iI (uf h) f st w
theorem ai'{cc:E}{XI:aK}(hh:A.handled=aB)(nd:K.vn.Nodup)(c:D4 K scope x dN dZ)(iI:dM W A cl K env I it dZ)
  (hc:∀C v,jC W A cl {K with kn:=oN K.kn scope.names} (uB scope (kO env scope.names []) C env) (I.set dN (Z v)) cc XI)
  (h:∀C v,dM W A cl {K with kn:=oN K.kn scope.names} (uB scope (kO env scope.names []) C env) (I.set dN (Z v)) dY iX):dM W A cl K env I (.Bd dY dN it cc) (.ListComp iX [⟨.Name x px,dZ,[XI],0⟩] scope pos):=λf st w=>
 XT hh nd c iI (ue hc h) f st w
class inductive yR (P:E->aK->Prop):Y E->Y (aG aK)->Y aK->Prop where
 | nil:yR P [] [] []
 | cons{k v:E}{k' v':aK}{es:Y E}{ks:Y (aG aK)}{vs:Y aK}(hk:P k k')(hv:P v v')(t:yR P es ks vs):yR P (k::v::es) (Z k'::ks) (v'::vs)
noncomputable def N4(env:fM)(pos:cZ):Y (aG aK)->Y aK->Y (rW aJ×rW aJ)
 | some k::ks,v::vs=>(eval k env,do let x <- eval v env;standAt pos;pure x)::N4 env pos ks vs
 | _,_=>[]
class inductive AU (W:Wd) (S:Mp) (h:bS):Y V->Y (aJ×aJ)->Prop where
 | nil:AU W S h [] []
 | cons{k v:V}{k' v':aJ}{xs:Y V}{ps:Y (aJ×aJ)}(hk:cB W S h k k')(hv:cB W S h v v')(t:AU W S h xs ps):AU W S h (k::v::xs) ((k',v')::ps)
theorem AU.mv(st:St W S H h)(m:Mv W X0 S h μ' H' h'){xs:Y V}{ps:Y (aJ×aJ)}(r:AU W S h xs ps):AU W μ' h' xs ps:=by
 induction r with
 | nil=>exact .nil
 | cons hk hv _ ih=>exact .cons (hk.mv st m) (hv.mv st m) ih
theorem yR.nu'(env:fM)(pos:cZ){es:Y E}{ks:Y (aG aK)}{vs:Y aK}(a:yR P es ks vs):
  (evalEachOpt ks env).zip ((PZ vs env).map λv=>do let x <- v;standAt pos;pure x)=(N4 env pos ks vs).map λp=>(Z p.1,p.2):=by
 induction a with
 | nil=>rfl
 | cons hk hv t ih=>
  rw[arm_evalEachOpt_cons,arm_evalOpt_some,arm_evalEach_cons,yN,Vg,ih];rfl
theorem yR.len(env:fM)(pos:cZ){es:Y E}{ks:Y (aG aK)}{vs:Y aK}(a:yR P es ks vs):(N4 env pos ks vs).length=ks.length:=by
 induction a with
 | nil=>rfl
 | cons hk hv t ih=>exact aW FD ih
theorem jU'{es:Y E}(a:yR (jC W A cl K env I) es ks vs):∀{H S} {s:aV} {P:Y V->Hp->Prop},FrOk W S s.heap K env I->St W S H s.heap->Dj W.G cl es I H P->
  ∀(Q:Y (aJ×aJ)->aV->Prop) E,(∀xs H',P xs H'->∀μ' h' tk ps,Mv W X0 S s.heap μ' H' h'->AU W μ' h' xs ps->Q ps {s with heap:=h',toks:=tk})->cG (Mo W) A (evalPairs (N4 env pos ks vs)) Q E s:=by
 induction a with
 | nil=>exact λ{H S s P} f st w Q E q=>evalPairs_nil (q _ _ w S s.heap s.toks [] (.refl st) .nil)
 | cons hk hv t ih=>
  intro H S s P f st w Q E q;refine evalPairs_cons (hk.ev f st w _ _ λx1 H1 w1 μ1 h1 tk1 y1 m1 GB=>bN (hv.ev (f.mv st m1) m1.st w1 _ _ λx2 H2 w2 μ2 h2 tk2 y2 m2 GC=>bN (lP (eF ?_))));refine ih ((f.mv st m1).mv m1.st m2) m2.st w2 _ _ λxs H3 w3 μ3 h3 yB ps m3 hp=>?_;exact q _ _ w3 μ3 h3 yB _ ((m1.trans m2).trans m3) (.cons ((GB.mv m1.st m2).mv m2.st m3) (GC.mv m2.st m3) hp)
def u6(W:Wd)(S:Mp)(h:bS)(xs:Y V)(ps:Y (aJ×aJ)):Prop:=match xs with
 | []=>ps=[]
 | [_]=>False
 | k::v::r=>JY (λk' v' Ko=>ps=(k',v')::Ko) (λk' v' Ko=>cB W S h k k') (λk' v' Ko=>cB W S h v v') (λk' v' Ko=>AU W S h r Ko)
theorem AU.cN{ps:Y (aJ×aJ)}(r:AU W S h xs ps):u6 W S h xs ps:=by
 cases r with
 | nil=>exact rfl
 | cons hk hv t=>exact⟨_,_,_,rfl,hk,hv,t⟩
theorem jT'{ps:Y (aJ×aJ)}(r:AU W S h xs ps):∀{es:Y (J×V)},N5 xs=Z es->
  JX (λbX=>Carries (nF W.prog W.w) ps bX) (λbX=>iV W S h es bX) (λbX=>(bX.map (·.1)).Nodup) (λbX=>bX.map (·.1)=es.map (·.1)):=by
 induction r with
 | nil=>exact λe=>⟨[],trivial,aT e▸ .nil,G0,aT e▸rfl⟩
 | cons hk hv t ih=>
  intro es e;obtain⟨i,hi,e⟩:=dD e;obtain⟨es',e1,e⟩:=dD e;obtain⟨Hl,e⟩:=iY e;obtain⟨bX,h1,h2,h3,h4⟩:=ih e1;rw[mW hi]at hk;obtain⟨tk,rfl⟩:=hk.cN;rw[<-aT e];refine⟨(i,_)::bX,⟨G8 _ _ _ _,rfl,h1⟩,.cons hv h2,?_,by rw[yN,yN,h4]⟩;rw[yN,Dv];refine⟨λhm=>?_,h3⟩;rw[h4]at hm;obtain⟨p,hp,lI⟩:=E8.mp hm;have:(es'.any λe=>e.1==i)=u:=E5.mpr ⟨p,hp,kB.mpr lI⟩;rw[this]at Hl;exact dA Hl
theorem iy'(bX:Y (J×aJ)):∀acc:Y (J×aJ),((acc++bX).map (·.1)).Nodup->merged acc bX=acc++bX:=by
 induction bX with
 | nil=>exact λacc _=>(pH acc).symm
 | cons kv bX ih=>
  intro acc h;have hk: ¬ (acc.any λe=>decide (e.1=kv.1))=u:=λq=>by
   obtain⟨p,hp,he⟩:=E5.mp q;rw[kM,yq]at h;exact h.2.2 p.1 (E8.mpr ⟨p,hp,rfl⟩) kv.1 (E8.mpr ⟨kv,vG,rfl⟩) (fY he)
  have e:merged acc (kv::bX)=merged (stored acc kv.1 kv.2) bX:=rfl;have e2:acc++kv::bX=acc++[kv]++bX:=by rw[fB];rfl
  rw[e,stored,aR hk,e2,ih];exact e2▸h
theorem dK'{Q E:aJ->aV->Prop}(st:St W S H s.heap)(SF:vs=[])(q:∀{h' d},Mv W X0 S s.heap (S++[(d,aB)]) (H++[.dict [] (Z 0)]) h'->cB W (S++[(d,aB)]) h' (.ref H.length) (.ref d)->Q (.ref d) {s with heap:=h'}):cG (Mo W) A (eval (.Dict [] vs pos) env) Q E s:=by
 rw[SF];refine wpAny_Dict_empty ?_;have g:(s.heap.push {cls:=.type "dict",data:=.dict #[]}).get? s.heap.objs.size=Z {cls:=.type "dict",data:=.dict #[]}:=Do _ rfl;have m:=Mv.Nr (p:=(s.heap.objs.size,aB)) (o':=.dict [] (Z 0)) st (λb o e=>sV {cls:=.type "dict",data:=.dict #[]} e) (λa ha=>uT ha▸AN (cE _))
  (.dict (n:=0) (bX:=[]) (λk hk=>aT hk) ⟨_,#[],g,⟨rfl,rfl,rfl⟩,rfl,λe he=>absurd he (by simp),.nil,G0⟩ .nil) (λa ha o e=>by rw[uT ha,g]at e;exact aT e▸GS rfl)
 exact q m (.ref (p:=(s.heap.objs.size,aB)) (by rw[<-st.len];exact Jv))
theorem ak'{bX:Y E}(hl:ks.length<=15)(nJ:ks.length=vs.length)(h:yR (jC W A cl K env I) bX ks vs):dM W A cl K env I (.dict bX) (.Dict ks vs pos):=λ{H S s P} f st w Q E q=>by
 have w:Dj W.G cl bX I H λvs h1=>bZ (N5 vs) λes=>P (.ref h1.length) (h1++[.dict es (cW bX.isEmpty (Z 0) aB)]):=w;cases ks with
 | nil=>
  cases h;have w:P (.ref H.length) (H++[.dict [] (Z 0)]):=w;exact dK' st rfl λ{h' d} m hv=>q _ _ w _ h' s.toks _ m hv
 | cons k ks=>
  have dE:=h.len env pos;have J3:s.heap.get? s.heap.objs.size=aB:=AN (cE _);have gF:bX.isEmpty=aE:=by cases h;rfl
  rw[gF]at w;refine wpAny_Dict_pairs (knd:=nF W.prog W.w) (h.nu' env pos) (λz=>by rw[z]at dE;exact PP dE) (dE▸hl) ?_;have mp:=Mv.push st {cls:=.type "dict",data:=.dict #[]};have g:(s.heap.push {cls:=.type "dict",data:=.dict #[]}).get? s.heap.objs.size=Z {cls:=.type "dict",data:=.dict #[]}:=Do _ rfl;have Hl:=st.sQ J3;refine jU' h (s:= {s with heap:=s.heap.push {cls:=.type "dict",data:=.dict #[]}}) (f.mv st mp) mp.st w _ _ λxs H1 w1 μ1 h1 tk1 ps m1 hp=>?_;obtain⟨es,he,w2⟩:=w1.ok;obtain⟨GL,c1,c2,c3,c4⟩:=jT' hp he;have g1:h1.get? s.heap.objs.size=Z {cls:=.type "dict",data:=.dict #[]}:=m1.keep _ _ Hl.1 (λq=>q) g;refine⟨GL,c1,⟨_,#[],0,g1,⟨rfl,rfl,rfl⟩,rfl,λe he=>absurd he (by simp),.nil,G0⟩,λh' Y0 hs=>?_⟩;rw[iy' GL [] c3,I7]at Y0;obtain⟨ep,F0⟩:=Y0.dictAt;have ZV: ¬ gD μ1 s.heap.objs.size:=m1.jA Hl.1 g;have nf:∀{a o},a=s.heap.objs.size->h1.get? a=Z o->¬ lU o:=λha e=>aT (g1.symm.trans (ha▸e))▸GS rfl;have ma:=(mp.trans m1).xB (λa=>a=s.heap.objs.size) (λa ha=>ha▸⟨ZV,Hl.2,J3⟩) (λa o ha e=>nf ha e) (h':=h') (λb o hb e=>(hs.2 b hb).trans e);have tp:TP h1 h':=λa o e hf=>(hs.2 a (λq=>nf q e hf)).trans e;have ad:=Mv.P0 (p:=(s.heap.objs.size,aB)) (o':=.dict es aB) st ma (λa ha=>uT ha▸⟨J3,ZV⟩) (.dict (n:=ep) (λk hk=>cI hk) F0 ((c2.cV (λ_ _ e=>e) tp).cV KY (λ_ _ e _=>e))) (λa ha o e=>by
   obtain⟨o',es',e',_,Ha,_⟩:=F0;rw[uT ha,e']at e;exact aT e▸GS Ha)
  exact q _ _ w2 _ _ _ _ ad (.ref (p:=(s.heap.objs.size,aB)) (by rw[<-ma.st.len];exact Jv))
end
def Lr(W:Wd)(gl:aU->aG V):Prop:=∀v,gl (bR "enumerate")=Z v->∃n,v= .g n/\W.lX n=Z (.type "enumerate")
structure D7(W:Wd)(A:dO)(cl:Call)(K:KC):Prop where
 wo:qC W
 ao:FO W
 gl:HE W K.gl
 en:Lr W K.gl
 an:K.an=W.an
 nd:K.vn.Nodup
 handled:A.handled=aB
 units:A.units+21<BQ
 MI:∀A',K6 A A'->yS W A' cl
theorem sM{a:aC}(h:(!a)=u):a=aE:=by cases a<;>first|rfl|exact dA h
theorem MF{K':KC}{e:E}{l:aG aK}(h:IJ (λx=>eK kn K' e (vw x)) (IE e) l=u)(g:∀x,eK kn K' e (vw x)=u->dM W A cl K env I e x):D5 W A cl K env I e l:=by
 cases l with
 | none=>exact iR' (P:=λe=>D5 W A cl K env I e aB) h z9
 | some x=>exact aa' (g x h)
mutual
theorem eX{W:Wd}{A:dO}{cl:Call}{K:KC}(ok:D7 W A cl K):∀(e:E) (kn:Y (aU×jM)) (pe:aK) (_:eK kn K e (vw pe)=u) (env:fM) (I:cA),jC W A cl {K with kn:=kn} env I e pe
 | .eT v,kn,pe,h,env,I=>by
  refine pS' h (λc k p h1=>dM.sD rfl (aj' h1)) λx p h1=>?_;exact dM.sD rfl (al' (K:= {K with kn:=kn}) ok.gl (aO (aO h1).1).1 (eq_of_beq (aO (aO h1).1).2) (aO h1).2)
 | .D i,kn,pe,h,env,I=>by
  refine BH h λx p h1=>?_;have h2:=aO h1;exact dM.sD rfl (ap' (K:= {K with kn:=kn}) (aO h2.1).1 (eq_of_beq (aO h2.1).2) (((Dm _ _).mp h2.2).imp eq_of_beq eq_of_beq))
 | .bO op a b,kn,pe,h,env,I=>by
  refine pR' h λl o r p h1=>?_;have h2:=aO h1;have e:o=op:=eq_of_beq (aO h2.1).1;rw[e];exact dM.sD rfl (ad' (eX ok a kn l (aO h2.1).2 env I).ev (eX ok b kn r h2.2 env I).ev)
 | .neg a,kn,pe,h,env,I=>by
  refine uo h λo x p h1=>?_;have ih:=dM.sD rfl (ar' (pos:=p) (eX ok a kn x (aO h1).2 env I).ev);cases o<;>first|exact dA (aO h1).1|exact ih
 | .not a,kn,pe,h,env,I=>by
  refine uo h λo x p h1=>?_;have ih:=as' (pos:=p) (eX ok a kn x (aO h1).2 env I);cases o<;>first|exact dA (aO h1).1|exact ih
 | .and es,kn,pe,h,env,I=>by
  refine uj h λo vs p h1=>?_;have ih:=ab' (pos:=p) (GR ok es kn vs (aO h1).2 env I);cases o<;>first|exact dA (aO h1).1|exact ih
 | .or es,kn,pe,h,env,I=>by
  refine uj h λo vs p h1=>?_;have ih:=au' (pos:=p) (GR ok es kn vs (aO h1).2 env I);cases o<;>first|exact dA (aO h1).1|exact ih
 | .bJ op a b,kn,pe,h,env,I=>by
  refine ul h λl os rs p h1=>iq (P:=λos rs=>jC _ _ _ _ _ _ _ (.Compare l os rs p)) h1 λo r h2=>?_;have h3:=aO h2;have h4:=aO h3.1;have h5:=aO h4.1;have e:o=op:=eq_of_beq h5.1;rw[e]at h5 ⊢;exact af' ok.wo.toWOk ok.units (sM h5.2) (eX ok a kn l h4.2 env I).ev (eX ok b kn r h3.2 env I).ev
 | .xE A0 uU a b c,kn,pe,h,env,I=>by
  refine ul h λl os rs p h1=>jc' (P:=λos rs=>jC _ _ _ _ _ _ _ (.Compare l os rs p)) h1 λo1 o2 r1 r2 h2=>?_;have h3:=aO h2;have h4:=aO h3.1;have h5:=aO h4.1;have h6:=aO h5.1;have e1:o1=A0:=eq_of_beq (aO h6.1).1;have e2:o2=uU:=eq_of_beq (aO h6.1).2;rw[e2]at h6;rw[e1,e2];exact ag' ok.wo.toWOk ok.units (sM h6.2) (eX ok a kn l h5.2 env I).ev (eX ok b kn r1 h4.2 env I).ev (eX ok c kn r2 h3.2 env I).ev
 | .ite c t f,kn,pe,h,env,I=>by
  refine pU' h λc' t' f' p h1=>?_;exact an' (eX ok c kn c' (aO (aO h1).1).1 env I) (eX ok t kn t' (aO (aO h1).1).2 env I) (eX ok f kn f' (aO h1).2 env I)
 | .aM es,kn,pe,h,env,I=>by
  refine Ol h λes' k p h1=>?_;exact dM.sD rfl (aw' (aO h1).1 (GR ok es kn es' (aO h1).2 env I))
 | .list es,kn,pe,h,env,I=>by
  refine pV' h λes' p h1=>?_;exact dM.sD rfl (ao' (aO h1).1 (GR ok es kn es' (aO h1).2 env I))
 | .dict bX,kn,pe,h,env,I=>by
  refine pT' h λks vs p h1=>?_;exact dM.sD rfl (ak' (fY (aO (aO h1).1).1) (fY (aO (aO h1).1).2) (dp ok bX kn ks vs (aO h1).2 env I))
 | .bI o a,kn,pe,h,env,I=>by
  refine Uu h λo' x p h1=>?_;exact dM.sD rfl (ac' ok.wo (aO (aO h1).1).1 (ok.an▸eq_of_beq (aO (aO h1).1).2) (eX ok o kn o' (aO h1).2 env I).ev)
 | .aY o i,kn,pe,h,env,I=>by
  refine LF h λo' i' p h1=>?_;exact dM.sD rfl (am' ok.wo.toWOk (sM (aO (aO h1).1).1) (eX ok o kn o' (aO (aO h1).1).2 env I).ev (eX ok i kn i' (aO h1).2 env I).ev)
 | .oO o lo hi,kn,pe,h,env,I=>by
  refine LF h λo' s p h1=>um (P:=λs=>jC _ _ _ _ _ _ _ (.Subscript o' s p)) h1 λl aN p' h2=>?_;exact dM.sD rfl (av' (eX ok o kn o' (aO (aO h2).1).1 env I).ev (MF (aO (aO h2).1).2 λx hx=>(eX ok lo kn x hx env I).ev) (MF (aO h2).2 λx hx=>(eX ok hi kn x hx env I).ev))
 | .call f args,kn,pe,h,env,I=>by
  refine Oj h λf' kC p h1=>?_;have h2:=aO (aO h1).1;have h3:=aO h2.1;exact dM.sD rfl (ae' ok.wo ok.handled ok.MI (aO h3.1).1 (aO h3.1).2 (eX ok f kn f' h2.2 env I).ev (GR ok args kn kC (aO h1).2 env I))
 | .aX o m args,kn,pe,h,env,I=>by
  refine Oj h λf' kC p h1=>Uu (P:=λf=>jC _ _ _ _ _ _ _ (.Call f kC [] p)) h1 λo' x ap h2=>?_;have h3:=aO (aO h2).1;have h4:=aO h3.1;have h5:=aO h4.1;have h6:=aO h5.1;exact dM.sD rfl (aq' ok.wo ok.ao ok.MI (aO h6.1).1 (aO h6.1).2 h6.2 (fY h5.2) (ok.an▸eq_of_beq h4.2) (eX ok o kn o' h3.2 env I).ev (GR ok args kn kC (aO h2).2 env I))
 | .comp dY dN it,kn,pe,h,env,I=>by
  refine Uv h λiX t dZ ifs sc p h1=>BH (P:=λt=>jC _ _ _ _ _ _ _ (.ListComp iX [⟨t,dZ,ifs,0⟩] sc p)) h1 λx px h2=>?_;have h3:=aO (aO h2).1;rw[vF.mp (aO h3.1).1];exact dM.sD rfl (ah' (K:= {K with kn:=kn}) ok.handled ok.nd (MN (aO h3.1).2) (eX ok it kn dZ h3.2 env I).ev (λC v=>(eX ok dY _ iX (aO h2).2 _ _).ev))
 | .Bd dY dN it c,kn,pe,h,env,I=>by
  refine Uv h λiX t dZ ifs sc p h1=>BH (P:=λt=>jC _ _ _ _ _ _ _ (.ListComp iX [⟨t,dZ,ifs,0⟩] sc p)) h1 λx px h2=>RN (P:=λifs=>jC _ _ _ _ _ _ _ (.ListComp iX [⟨.Name x px,dZ,ifs,0⟩] sc p)) h2 λc' h3=>?_;have h4:=aO (aO h3).1;exact dM.sD rfl (ai' (K:= {K with kn:=kn}) ok.handled ok.nd (MN (aO h4.1).1) (eX ok it kn dZ (aO h4.1).2 env I).ev (λC v=>eX ok c _ c' (aO h3).2 _ _) (λC v=>(eX ok dY _ iX h4.2 _ _).ev))
theorem GR{W:Wd}{A:dO}{cl:Call}{K:KC}(ok:D7 W A cl K):∀(es:Y E) (kn:Y (aU×jM)) (IN:Y aK) (_:Eu kn K es IN=u) (env:fM) (I:cA),vJ (jC W A cl {K with kn:=kn} env I) es IN
 | [],kn,IN,h,env,I=>by rw[vF.mp h];exact .nil
 | e::es,kn,IN,h,env,I=>by
  refine QR h λx xs h1=>?_;exact .cons (eX ok e kn x (aO h1).1 env I) (GR ok es kn xs (aO h1).2 env I)
theorem dp{W:Wd}{A:dO}{cl:Call}{K:KC}(ok:D7 W A cl K):∀(es:Y E) (kn:Y (aU×jM)) (ks:Y (aG aK)) (vs:Y aK) (_:Ul kn K es ks vs=u) (env:fM) (I:cA),yR (jC W A cl {K with kn:=kn} env I) es ks vs
 | [],kn,ks,vs,h,env,I=>by rw[vF.mp (aO h).1,vF.mp (aO h).2];exact .nil
 | [_],kn,ks,vs,h,env,I=>dA h
 | k::v::r,kn,ks,vs,h,env,I=>by
  refine dA' (P:=λks=>yR _ _ ks vs) h λk' ks h1=>QR (P:=λvs=>yR _ _ (Z k'::ks) vs) h1 λv' vs h2=>?_;exact .cons (eX ok k kn k' (aO (aO h2).1).1 env I) (eX ok v kn v' (aO (aO h2).1).2 env I) (dp ok r kn ks vs (aO h2).2 env I)
end
def FX(env:fM):bC->Prop:=λa=>a=env.locals\/ ∃x,env.cells.lookup x=Z a
def t6(env:fM):Prop:=∀x y c,env.cells.lookup x=Z c->env.cells.lookup y=Z c->x=y
theorem Mv.OW(st:St W S H h)(hX:∀a,eD a->¬ gD S a/\W.h0.get? a=aB)(hF:∀a o,eD a->h.get? a=Z o->¬ lU o)
  (hk:∀b o,¬ eD b->h.get? b=Z o->h'.get? b=Z o) (hh:∀a o,eD a->h.get? a=Z o->∃o',h'.get? a=Z o'):Mv W eD S h S H h':=by
 refine⟨⟨st.len,λb o e=>hk b o (λq=>cI ((hX b q).2.symm.trans e)) (st.iH b o e),λi o p ho hp=>(st.obj i o p ho hp).cV (λ_ _ e=>e) (λa o e hf=>hk a o (λq=>hF a o q e hf) e) (λa ha ob e=>hk a ob (λq=>(hX a q).1 (.CC hp ha)) e),st.fresh,st.apart,λa o ha e=>?_⟩,
  ⟨[],(pH S).symm⟩,λa o x _=>x,λa o e=>?_,λb o hb hx e=>hk b o hx e⟩
 ·obtain⟨o',rH⟩:=st.has ha
  rw[<-aT ((hk a o' (λq=>(hX a q).1 ha) rH).symm.trans e)];exact st.kind a o' ha rH
 ·by_cases hx:eD a
  exact hh a o hx e;exact⟨o,hk a o hx e⟩
section
variable{P:PS}{Q:Flow->aV->Prop}{c:bC}{i:O}{pos:cZ}{v:V}
theorem IsCell.xI(x:h.IsCell c aN){o:gQ}(e:h.get? c=Z o): ¬ lU o:=by
 obtain⟨o',e',hd⟩:=x;rw[<-aT (e'.symm.trans e)];intro z;rcases z with⟨_,_,_,q⟩|⟨_,_,q⟩
 exact wn (hd.symm.trans q);exact wn (hd.symm.trans q)
theorem FrOk.xI(f:FrOk W S h K env I)(hc:∀x c,env.cells.lookup x=Z c->∃aN,h.IsCell c aN)(a:bC)(o:gQ)(ha:FX env a)(e:h.get? a=Z o): ¬ lU o:=by
 rcases ha with ha|⟨x,hx⟩
 ·obtain⟨m,hm,_⟩:=f.ns
  exact Ns.xI hm (ha▸e)
 ·obtain⟨aN,hu⟩:=hc x a hx
  exact IsCell.xI hu e
structure jD(W:Wd)(S:Mp)(h:bS)(K:KC)(env:fM)(I:cA):Prop extends FrOk W S h K env I where
 Jj:t6 env
 cells:∀x c,env.cells.lookup x=Z c->∃aN,h.IsCell c aN
theorem jD.mv(st:St W S H h)(f:jD W S h K env I)(m:Mv W X0 S h μ' H' h'):jD W μ' h' K env I:=
 ⟨f.toFrOk.mv st m,f.Jj,λx c hx=>let ⟨aN,hu⟩:=f.cells x c hx;⟨aN,IsCell.lL hu λo e=>m.keep c o (f.uJ x c hx).1 (λq=>q) e⟩⟩
theorem jD.keep(f:jD W S h K env I)(tp:TP h h')(hk:∀b o,FX env b->h.get? b=Z o->h'.get? b=Z o):jD W S h' K env I:=by
 obtain⟨mp,hn,hv⟩:=f.ns;refine⟨⟨f.kind,f.kn,f.C3,f.blt,⟨mp,Ns.lL hn λo e=>hk _ o (.inl rfl) e,λi x v h1 h2 h3=>let ⟨y,h4,h5⟩:=hv i x v h1 h2 h3;⟨y,h4,h5.cV (λ_ _ e=>e) tp⟩⟩,λx hx=>?_,f.GN,λx c hc=>?_⟩,f.Jj,λx c hc=>?_⟩
 ·obtain⟨c,aN,h1,h2,h3⟩:=f.cell x hx
  exact⟨c,aN,h1,IsCell.lL h2 λo e=>hk c o (.inr ⟨x,h1⟩) e,λi v h4 h5=>let ⟨y,h6,h7⟩:=h3 i v h4 h5;⟨y,h6,h7.cV (λ_ _ e=>e) tp⟩⟩
 ·obtain⟨h1,h2,h3,o,h4⟩:=f.uJ x c hc
  exact⟨h1,h2,h3,o,hk c o (.inr ⟨x,hc⟩) h4⟩
 ·obtain⟨aN,hu⟩:=f.cells x c hc
  exact⟨aN,IsCell.lL hu λo e=>hk c o (.inr ⟨x,hc⟩) e⟩
theorem jD.fx0(f:jD W S h K env I)(a:bC)(ha:FX env a): ¬ gD S a/\W.h0.get? a=aB:=by
 rcases ha with ha|⟨z,hz⟩
 exact ha▸f.GN;exact⟨(f.uJ z a hz).1,(f.uJ z a hz).2.1⟩
theorem K1{z:aU}{w:V}(nd:K.vn.Nodup)(hi:K.vn[i]?=Z x)(h1:K.vn[j]?=Z z)(h2:(I.set i (Z v))[j]?=Z (Z w)):(z=x/\w=v)\/(z≠x/\I[j]?=Z (Z w)):=by
 by_cases hz:i=j
 ·rw[<-hz]at h1 h2
  rw[VX]at h2;cases hρ:I[i]? with
  | none=>rw[hρ]at h2;exact cI h2
  | some aN=>rw[hρ]at h2;exact .inl ⟨aT (h1.symm.trans hi),(aT (aT h2)).symm⟩
 ·rw[kL hz]at h2
  refine .inr ⟨λq=>hz ?_,h2⟩;rw[q]at h1;obtain⟨l1,e1⟩:=iT.mp h1;obtain⟨l2,e2⟩:=iT.mp hi;exact (Va nd).mp (e2.trans e1.symm)
theorem jD.OW(st:St W S H h)(f:jD W S h K env I)(hc:FX env c)(hk:∀b o,b≠c->h.get? b=Z o->h'.get? b=Z o)(hh:∃o,h'.get? c=Z o):Mv W (FX env) S h S H h':=
 Mv.OW st f.fx0 (f.toFrOk.xI f.cells) (λb o hb e=>hk b o (λq=>hb (q▸hc)) e) λa o ha e=>by
  by_cases hl:a=c;exact hl▸hh;exact⟨o,hk a o hl e⟩
theorem jD.lM{m:aU->aG aJ}(nd:K.vn.Nodup)(st:St W S H h)(f:jD W S h K env I)(hi:K.vn[i]?=Z x)(hl:K.kn.lookup x=Z .local)(hv:cB W S h v y)
  (hm:∀(i:O) x v,K.vn[i]?=Z x->I[i]?=Z (Z v)->K.kn.lookup x=Z .local->∃y,m x=Z y/\cB W S h v y) (F4:h'.Ns env.locals λz=>if z=x then Z y else m z) (hk:∀b o,b≠env.locals->h.get? b=Z o->h'.get? b=Z o):Mv W (FX env) S h S H h'/\jD W S h' K env (I.set i (Z v)):=by
 have mm:=f.OW st (.inl rfl) hk (Ns.has F4);have tp:=mm.Et st (f.toFrOk.xI f.cells);refine⟨mm,⟨f.kind,f.kn,f.C3,f.blt,⟨_,F4,λj z w h1 h2 h3=>?_⟩,λz hz=>?_,f.GN,λz c hz=>?_⟩,f.Jj,λz c hz=>?_⟩
 ·rcases K1 nd hi h1 h2 with⟨e1,e2⟩|⟨gF,h4⟩
  ·exact⟨y,aZ e1,e2▸hv.cV (λ_ _ e=>e) tp⟩
  ·obtain⟨y',h5,h6⟩:=hm j z w h1 h4 h3
   exact⟨y',(aR gF).trans h5,h6.cV (λ_ _ e=>e) tp⟩
 ·obtain⟨c,aN,h1,h2,h3⟩:=f.cell z hz
  refine⟨c,aN,h1,IsCell.lL h2 λo e=>hk c o (f.uJ z c h1).2.2.1 e,λj w h4 h5=>?_⟩;rcases K1 nd hi h4 h5 with⟨e1,e2⟩|⟨gF,h6⟩
  ·rw[e1,hl]at hz;exact Vh (aT hz)
  ·obtain⟨y',h7,h8⟩:=h3 j w h4 h6
   exact⟨y',h7,h8.cV (λ_ _ e=>e) tp⟩
 ·obtain⟨h1,h2,h3,o,h4⟩:=f.uJ z c hz
  exact⟨h1,h2,h3,o,hk c o h3 h4⟩
 ·obtain⟨aN,hu⟩:=f.cells z c hz
  exact⟨aN,IsCell.lL hu λo e=>hk c o (f.uJ z c hz).2.2.1 e⟩
theorem jD.kf'(nd:K.vn.Nodup)(st:St W S H h)(f:jD W S h K env I)(hi:K.vn[i]?=Z x)(hl:K.kn.lookup x=Z .cell)(hv:cB W S h v y)
  (hx:env.cells.lookup x=Z c) (Fy:h'.IsCell c (Z y)) (hk:∀b o,b≠c->h.get? b=Z o->h'.get? b=Z o):Mv W (FX env) S h S H h'/\jD W S h' K env (I.set i (Z v)):=by
 have mm:=f.OW st (.inr ⟨x,hx⟩) hk (let ⟨o,e,_⟩:=Fy;⟨o,e⟩);have tp:=mm.Et st (f.toFrOk.xI f.cells);have hcL:=(f.uJ x c hx).2.2.1;obtain⟨m,hn,hm⟩:=f.ns;refine⟨mm,⟨f.kind,f.kn,f.C3,f.blt,⟨m,Ns.lL hn λo e=>hk _ o hcL.symm e,λj z w h4 h5 h6=>?_⟩,λz hz=>?_,f.GN,λz c' hz=>?_⟩,f.Jj,λz c' hz=>?_⟩
 ·rcases K1 nd hi h4 h5 with⟨e1,e2⟩|⟨gF,h7⟩
  ·rw[e1,hl]at h6;exact Vh (aT h6)
  ·obtain⟨y',h8,h9⟩:=hm j z w h4 h7 h6
   exact⟨y',h8,h9.cV (λ_ _ e=>e) tp⟩
 ·by_cases SL:z=x
  ·rw[SL]
   refine⟨c,Z y,hx,Fy,λj w h7 h8=>?_⟩;rcases K1 nd hi h7 h8 with⟨_,e2⟩|⟨gF,_⟩
   exact⟨y,rfl,e2▸hv.cV (λ_ _ e=>e) tp⟩;exact absurd rfl gF
  ·obtain⟨c',u',h4,h5,h6⟩:=f.cell z hz
   refine⟨c',u',h4,IsCell.lL h5 λo e=>hk c' o (λq=>SL (f.Jj z x c (q▸h4) hx)) e,λj w h7 h8=>?_⟩;rcases K1 nd hi h7 h8 with⟨e1,_⟩|⟨_,h9⟩
   ·exact absurd e1 SL
   ·obtain⟨y',h10,EP⟩:=h6 j w h7 h9
    exact⟨y',h10,EP.cV (λ_ _ e=>e) tp⟩
 ·obtain⟨h4,h5,h6,o,h7⟩:=f.uJ z c' hz
  exact⟨h4,h5,h6,mm.has c' o h7⟩
 ·by_cases My:c'=c
  ·exact⟨_,My▸Fy⟩
  ·obtain⟨u',hu⟩:=f.cells z c' hz
   exact⟨u',IsCell.lL hu λo e=>hk c' o My e⟩
def tF(K:KC)(x:aU):Prop:=K.kn.lookup x=Z .local\/K.kn.lookup x=Z .cell
theorem K5(nd:K.vn.Nodup)(st:St W S H s.heap)(f:jD W S s.heap K env I)(hi:K.vn[i]?=Z x)(hk:tF K x)(hv:cB W S s.heap v y)
  {Q:vH->aV->Prop} {E:aJ->aV->Prop} (q:∀h' tk,Mv W (FX env) S s.heap S H h'->jD W S h' K env (I.set i (Z v))->Q () {s with heap:=h',toks:=tk}):cG (Mo W) A (storeName env x y) Q E s:=by
 rcases hk with hk|hk
 ·obtain⟨m,hn,hm⟩:=f.ns
  refine s9 (f.GK hk) hn (λh' F4 KB=>?_) (by rw[f.kind];rfl);have:=f.lM nd st hi hk hv hm F4 λb o hb e=>(KB.2 b hb).trans e;exact q h' _ this.1 this.2
 ·obtain⟨c,aN,h1,h2,h3⟩:=f.cell x hk
  refine wpAny_storeName_cell f.kind (f.GK hk) h1 h2 λh' Fy KB=>?_;have:=f.kf' nd st hi hk hv h1 Fy λb o hb e=>(KB.2 b hb).trans e;exact q h' s.toks this.1 this.2
def u0(W:Wd)(S:Mp)(h:bS)(fl:Fl)(f:Flow):Prop:=match fl with
 | .next=>f= .next
 | .ret v=>fQ (λw=>f= .ret w) (λw=>cB W S h v w)
 | .cont=>f= .cont
def BV(W:Wd)(K:KC)(env:fM)(s:aV)(S:Mp)(P:PS)(Q:Flow->aV->Prop):Prop:=
 ∀fl ρ' H',P fl ρ' H'->∀μ' h' tk f,Mv W (FX env) S s.heap μ' H' h'->jD W μ' h' K env ρ'->u0 W μ' h' fl f->Q f {s with heap:=h',toks:=tk}
theorem BV.step(k:BV W K env s S P Q)(m:Mv W (FX env) S s.heap μ' H' h'):BV W K env {s with heap:=h',toks:=tk} μ' P Q:=λfl I H p μ2 h2 tk2 f m2=>k fl I H p μ2 h2 tk2 f (m.trans m2)
theorem BV.next(k:BV W K env s S P Q)(p:P .next I H){h':bS}{tk:O}{μ':Mp}(m:Mv W (FX env) S s.heap μ' H h')(f:jD W μ' h' K env I):Q .next {s with heap:=h',toks:=tk}:=k .next I H p μ' h' tk .next m f rfl
def kN(W:Wd)(A:dO)(cl:Call)(K:KC)(env:fM)(st:bD)(ps:dK):Prop:=
 ∀{I H S} {s:aV} {P:PS},jD W S s.heap K env I->St W S H s.heap->wS W.G cl st I H P->∀Q E,BV W K env s S P Q->cG (Mo W) A (exec ps env) Q E s
def uD(W:Wd)(A:dO)(cl:Call)(K:KC)(env:fM)(st:Y bD)(ps:Y dK):Prop:=
 ∀{I H S} {s:aV} {P:PS},jD W S s.heap K env I->St W S H s.heap->bQ W.G cl st I H P->∀Q E,BV W K env s S P Q->cG (Mo W) A (execs ps env) Q E s
theorem Mv.fx(m:Mv W X0 S h μ' H' h'):Mv W eD S h μ' H' h':=m.LH λ_ _ _ q=>q.elim
theorem ol': kN W A cl K env .A1 (.Pass pos):=λf st w Q E q=>wpAny_Pass (q.next (tk:=_) w (.refl st) f)
theorem oc': kN W A cl K env .cont (.Continue pos):=λ{I H S s P} f st w Q E q=>wpAny_Continue (q _ _ _ w S s.heap s.toks .cont (.refl st) f rfl)
theorem oe'{ps:dK}: kN W A cl K env .fail ps:=λf st w=>w.elim
theorem om'{e:E}(h:∀I,dM W A cl K env I e pe):kN W A cl K env (.ret e) (.Return (Z pe) pos):=λf st w Q E q=>
 wpAny_Return_some (h _ f.toFrOk st w _ _ λv H1 w1 μ1 h1 tk1 y m1 hv=>q _ _ _ w1 μ1 h1 tk1 (.ret y) m1.fx (f.mv st m1) ⟨y,rfl,hv⟩)
theorem on': kN W A cl K env .DW (.Return aB pos):=λ{I H S s P} f st w Q E q=>
 wpAny_Return_none (q _ _ _ w S s.heap s.toks (.ret .none) (.refl st) f ⟨_,rfl,.none⟩)
theorem nQ':uD W A cl K env [] []:=λf st w Q E q=>WQ (q.next (tk:=_) w (.refl st) f)
theorem nP'{x:bD}{xs:Y bD}{p:dK}{ps:Y dK}(h1:kN W A cl K env x p)(h2:uD W A cl K env xs ps):uD W A cl K env (x::xs) (p::ps):=λf st w Q E q=>by
 rw[Ey]at w;refine wpAny_execs_cons (h1 f st w _ _ λfl ρ1 H1 w1 μ1 An tk1 fw m1 f1 hf=>?_);cases fl with
 | next=>
  rw[show fw= .next from hf];exact h2 f1 m1.st w1 _ _ (q.step m1)
 | ret v=>
  obtain⟨y,rfl,hv⟩:=hf;exact q _ _ _ w1 μ1 An tk1 _ m1 f1 ⟨y,rfl,hv⟩
 | cont=>
  rw[show fw= .cont from hf];exact q _ _ _ w1 μ1 An tk1 _ m1 f1 rfl
theorem oj'{c:E}{t f':Y bD}{pt pf:Y dK}(hc:∀I,jC W A cl K env I c pc)(ht:uD W A cl K env t pt)(hf:uD W A cl K env f' pf):kN W A cl K env (.cP c t f') (.If pc pt pf pos):=λf st w Q E q=>by
 refine wpAny_If ((hc _).tv f.toFrOk st w _ _ λb H1 w1 μ1 h1 tk1 m1=>?_);cases b with
 | true=>exact ht (f.mv st m1) m1.st w1 _ _ (q.step m1.fx)
 | false=>exact hf (f.mv st m1) m1.st w1 _ _ (q.step m1.fx)
end
section
variable{p pos:cZ}
variable{W:Wd}{A:dO}{cl:Call}{K:KC}{env:fM}{I:cA}
theorem dP'{f:aK}{ks:Y Keyword}{v:aJ}{Q:Flow->aV->Prop}{E:aJ->aV->Prop}(h:Q .next s):cG (Mo W) A (dropValue (.Call f as ks p) pos v) Q E s:=by
 cases v with
 | ref=>exact bN (lP (bN (wpAny_runValue (codeAny_builtin entry_let_go (show cG _ _ (ret .none) _ _ s from eF (eF h))))))
 | _=>exact eF h
theorem od'{e:E}(h:∀I,dM W A cl K env I e (.Call pf as [] p)):kN W A cl K env (.expr e) (.Expr (.Call pf as [] p) pos):=λf st w Q E q=>by rw[exec_Expr env _ pos (by unfold interactive;rw[f.kind];rfl) (Ob rfl)];exact bN (lP (bN (h _ f.toFrOk st w _ _ λv H1 w1 μ1 h1 tk1 y m1 hv=>dP' (q.next w1 m1.fx (f.mv st m1)))))
theorem nS'{i:O}{x:aU}{px:cZ}{e:E}{pe:aK}{pos:cZ}(nd:K.vn.Nodup)(hi:K.vn[i]?=Z x)(hk:tF K x)(Bz:env.scope.kind= .function->env.scope.names=K.kn->Ln pe (Z (.Name x px)) pos.line env=pure aE)
  (h:∀I,dM W A cl K env I e pe):kN W A cl K env (.cU i e) (.Assign [.Name x px] pe pos):=λ{I H S s P} f st w Q E q=>
 wpAny_Assign_Name (h _ f.toFrOk st w _ _ λv H1 w1 μ1 h1 tk1 y m1 hv=>K5 (s:= {s with heap:=h1,toks:=tk1}) nd m1.st (f.mv st m1) hi hk hv λh' tk m f'=>q.next w1 (m1.fx.trans m) f') (Bz f.kind f.kn)
theorem qk{i:O}{y:aU}{py:cZ}{ev:E}{gK:cA->V->Hp->(aG V->Hp->Prop)->Prop}(hh:A.handled=aB)(nd:K.vn.Nodup)(hi:K.vn[i]?=Z y)(hk:tF K y)
  (c:D4 K scope x dN dZ) (Bz:env.scope.kind= .function->env.scope.names=K.kn->Ln (.ListComp iX [⟨.Name x px,dZ,ifs,0⟩] scope Ct) (Z (.Name y py)) pos.line env=pure u)
  (iI:∀I,dM W A cl K env I it dZ) (ht:∀I,HI W A K scope env I dN ifs iX (gK I))
  (Y7:∀I H P,wE W.G cl ev I H P->wE W.G cl it I H λx h=>oB (Aa (gK I) x P) (0,[],h)):
  kN W A cl K env (.cU i ev) (.Assign [.Name y py] (.ListComp iX [⟨.Name x px,dZ,ifs,0⟩] scope Ct) pos):=λ{I H S s P} f st w Q E q=>by
 have Mz:PY scope env=pure (kO env scope.names []):=XO λy hy hf=>by
  obtain⟨c',aN,h1,_⟩:=f.cell y.1 (c.free y hy hf);exact⟨c',h1⟩
 rw[exec_Assign_Name_used _ _ _ _ (Bz f.kind f.kn)];refine bN (lP (bN ?_));show cG _ A (do let _ <- comprehension (.ListComp iX [⟨.Name x px,dZ,ifs,0⟩] scope Ct) scope env _ (newList []) aE (eval dZ env) (Z (assign (.Name y py) env))) _ _ s;refine bN (nG (l9 (use:=Z (assign (.Name y py) env)) (Q:=λ_ s'=>Q .next s') rfl (Kd c.set env) Mz c.kind (λy hy hl=>(c.D y hy hl).1) (iI I f.toFrOk st (Y7 _ _ _ w) _ _ λnU H1 w1 μ1 h1 tk1 v m1 hv=>?_))
  (λ_ s' hq=>eF (eF hq)) λ_ _ e=>e)
 have f1:=f.mv st m1;clear Mz f st w Y7 Bz;refine XS (RR:=λacc C=>compPost (Mo W) A E (Z (assign (.Name y py) env)) (λ_ s'=>Q .next s') acc C) hh nd c f1.toFrOk m1.st hv (ht I) w1 ?_;intro cK C h' tk μ' Hn vs p cd sJ;show cG _ A (assign (.Name y py) env (.ref cK)) _ _ _;have Yk: ¬ FX env C:=λz=>by
  rcases z with z|⟨z,hz⟩
  ·obtain⟨mm,hm,_⟩:=f1.ns
   obtain⟨o,ho⟩:=Ns.has hm;exact cI (sJ.symm.trans (z▸ho))
  ·obtain⟨_,_,_,o,ho⟩:=f1.uJ z C hz
   exact cI (sJ.symm.trans ho)
 refine Pg (K5 (s:= {s with heap:=h',toks:=tk}) nd cd.1.st (f1.mv m1.st cd.1) hi hk cd.2 λh2 tk2 m2 f3=>?_);obtain⟨m,NA⟩:=cd.3;have ZT:=Ns.lL NA λo e=>m2.keep C o cd.4 Yk e;refine⟨m,ZT,λh3 Ap=>?_⟩;have mt:=(cd.1.fx (eD:=FX env)).trans m2;have tO:∀b o,b≠C->h2.get? b=Z o->h3.get? b=Z o:=λb o hb e=>(Ap.2 b hb).trans e;have nf:∀{a o},a=C->h2.get? a=Z o->¬ lU o:=λha e=>Ns.xI ZT (ha▸e);have ma:=mt.xB (λa=>a=C) (λa ha=>ha▸⟨cd.4,(m1.st.sQ sJ).2,sJ⟩) (λa o ha e=>nf ha e) (h':=h3) (λb o hb e=>tO b o hb e);exact q.next p (m1.fx.trans ma) (f3.keep (λa o e hf=>tO a o (λz=>nf z e hf) e) λb o hb e=>tO b o (λz=>Yk (z▸hb)) e)
end
section
variable{e o:E}{i:O}{op:wR}{pos:cZ}
theorem Qh{t:aK}{Q:Flow->aV->Prop}{E:aJ->aV->Prop}(hc:xQ value=aE)(e2:JQ [t] value env=pure aB)(e3:(Cd [t] env).map (·.2)=[assign t env])
  (h:cG (Mo W) A (eval value env) (λv s₁=>cG (Mo W) A (assign t env v) (λ_ s₂=>Q .next s₂) E s₁) E s):cG (Mo W) A (exec (.Assign [t] value pos) env) Q E s:=by
 show cG _ _ (do
  standAt pos
  if <- Pf [t] value pos.line env then do
   evalThenUse value env λv=>Vx v ((Cd [t] env).map (·.2))
   pure .next
  else do
   let v <- eval value env
   assignStores env v (<- JQ [t] value env) ((Cd [t] env).map (·.2))) Q E s
 have e1:Pf [t] value pos.line env=pure aE:=Ob hc;rw[e1,e2,e3];exact bN (lP (bN (eF (bN (nG h (λv s₁ h₁=>bN (eF (bN (m:=assign t env v) (nG h₁ (λ_ s₂ h₂=>eF h₂) λ_ _ x=>x)))) λ_ _ x=>x)))))
theorem nT'{a:O}(wo:qC W)(ha:W.an a=Z x)(hc:xQ pe=aE)(ho:∀I,dM W A cl K env I o o')(he:∀I,dM W A cl K env I e pe):kN W A cl K env (.dU o a e) (.Assign [.Attribute o' x ap] pe pos):=λ{I H S s P} f st w Q E q=>by refine Qh hc rfl rfl (he _ f.toFrOk st w _ _ λv H1 w1 μ1 h1 tk1 y m1 hv=>?_);rw[arm_assign_Attribute];refine bN (jN (ho _ (f.toFrOk.mv st m1) m1.st w1 _ _ λx H2 w2 μ2 h2 tk2 aN m2 hu=>?_));obtain⟨H3,hs,w3⟩:=w2.ok;exact bN (lP (bN (jN (nc' (s:= {s with heap:=h2,toks:=tk2}) wo m2.st ha hu (hv.mv m1.st m2) hs fun μ3 h3 yB m3=>JS (q.next w3 ((m1.trans m2).trans m3).fx (((f.mv st m1).mv m1.st m2).mv m2.st m3))))))
theorem nU'{i:E}(wo:qC W)(hc:xQ pe=aE)(ho:∀I,dM W A cl K env I o o')(hi:∀I,dM W A cl K env I i i')(he:∀I,dM W A cl K env I e pe):kN W A cl K env (.sA o i e) (.Assign [.Subscript o' i' sp] pe pos):=λ{I H S s P} f st w Q E q=>by refine Qh hc rfl rfl (he _ f.toFrOk st w _ _ λv H1 w1 μ1 h1 tk1 y m1 hv=>?_);rw[i6];refine bN (jN (ho _ (f.toFrOk.mv st m1) m1.st w1 _ _ λx H2 w2 μ2 h2 tk2 aN m2 hu=>bN (jN (hi _ ((f.toFrOk.mv st m1).mv m1.st m2) m2.st w2 _ _ λk H3 w3 μ3 h3 yB kv m3 He=>?_))));obtain⟨n,hn,w4⟩:=w3.ok;obtain⟨H4,hs,w5⟩:=w4.ok;rw[mW hn]at He;obtain⟨t,rfl⟩:=He.cN;exact bN (lP (bN (jN (oq (s:= {s with heap:=h3,toks:=yB}) wo.toWOk m3.st (hu.mv m2.st m3) ((hv.mv m1.st m2).mv m2.st m3) hs fun μ4 h4 Io m4=>JS (q.next w5 (((m1.trans m2).trans m3).trans m4).fx ((((f.mv st m1).mv m1.st m2).mv m2.st m3).mv m3.st m4))))))
theorem nW'{o lo hi e:E}{l aN:aG aK}{sp2:cZ}(hc:xQ pe=aE)(ho:∀I,dM W A cl K env I o o')(hl:∀I,D5 W A cl K env I lo l)(hu:∀I,D5 W A cl K env I hi aN)(he:∀I,dM W A cl K env I e pe):
  kN W A cl K env (.Jd o lo hi e) (.Assign [.Subscript o' (.Slice l aN aB sp2) sp] pe pos):=λ{I H S s P} f st w Q E q=>by
 refine Qh hc rfl rfl (he _ f.toFrOk st w _ _ λv H1 w1 μ1 h1 tk1 y m1 hv=>?_);rw[i6];have f1:=f.mv st m1;refine bN (jN (ho _ f1.toFrOk m1.st w1 _ _ λx H2 w2 μ2 h2 tk2 ou m2 Rx=>bN (jN (wpAny_Slice (hl _ (f1.mv m1.st m2).toFrOk m2.st w2 _ _ λa H3 w3 μ3 h3 yB vl m3 DA=>hu _ ((f1.mv m1.st m2).mv m2.st m3).toFrOk m3.st w3 _ _ λb H4 w4 μ4 h4 Io vu m4 KG=>?_)))));obtain⟨H5,hs,w5⟩:=w4.ok;rw[WJ];refine eF (bN (lP (bN (jN ?_))));refine nf' (s:= {s with heap:=h4,toks:=Io}) m4.st ((Rx.mv m2.st m3).mv m3.st m4) (DA.mv m3.st m4) KG (((hv.mv m1.st m2).mv m2.st m3).mv m3.st m4) hs fun μ5 h5 Er m5=>?_;exact JS (q.next w5 ((((m1.trans m2).trans m3).trans m4).trans m5).fx ((((f1.mv m1.st m2).mv m2.st m3).mv m3.st m4).mv m4.st m5))
noncomputable def KO:wR->aC
 | .Add=>u
 | .Sub=>u
 | _=>aE
theorem ax{b:J}{t aN:sZ}(ho:KO op=u)(st:St W S H s.heap)(e:Ff op a b=Z c):Cg W A s S (inplaceOp op (.int a t) (.int b aN)) (.int c,H):=by
 intro Q E r;cases op with
 | Add=>rw[<-aT e]at r;exact PySem.P.iadd_int (r.fC st (.int _ _))
 | Sub=>rw[<-aT e]at r;exact PySem.P.isub_int (r.fC st (.int _ _))
 | _=>exact dA ho
theorem hT'{v:V}(f:FrOk W S s.heap K env I)(hi:K.vn[i]?=Z x)(hk:tF K x)(hv:CA I i=Z v){Q:aJ->aV->Prop}{E:aJ->aV->Prop}(q:∀y,cB W S s.heap v y->Q y s):cG (Mo W) A (loadName env x) Q E s:=by
 have hv:=cv hv;rcases hk with hk|hk
 ·obtain⟨m,hn,hm⟩:=f.ns
  obtain⟨y,h1,h2⟩:=hm i x v hi hv hk;exact m9 f.kind (f.GK hk) hn h1 (q y h2)
 ·obtain⟨c,aN,h1,h2,h3⟩:=f.cell x hk
  obtain⟨y,rfl,h5⟩:=h3 i v hi hv;exact m8 f.kind (f.GK hk) h1 h2 (q y h5)
theorem nZ'(nd:K.vn.Nodup)(gX:KO op=u)(hi:K.vn[i]?=Z x)(hk:tF K x)(h:∀I,dM W A cl K env I e pe):
  kN W A cl K env (.AX i op e) (.AugAssign (.Name x px) op pe pos):=λ{I H S s P} f st w Q E q=>by
 obtain⟨xv,ha,w⟩:=w.ok;obtain⟨a,hq,w⟩:=w.ok;rw[mW hq]at ha;refine wpAny_AugAssign_Name (hT' f.toFrOk hi hk ha λy hy=>?_);obtain⟨t,rfl⟩:=hy.cN;refine h _ f.toFrOk st w _ _ λv H1 w1 μ1 h1 tk1 aN m1 hu=>?_;obtain⟨b,hb,w2⟩:=w1.ok;obtain⟨c,hc,w3⟩:=w2.ok;rw[mW hb]at hu;obtain⟨t',rfl⟩:=hu.cN;refine ax (s:= {s with heap:=h1,toks:=tk1}) gX m1.st hc _ _ fun μ2 h2 tk2 v m2 hv=>?_;exact K5 (s:= {s with heap:=h2,toks:=tk2}) nd m2.st ((f.mv st m1).mv m1.st m2) hi hk hv λh' tk m f'=>q.next w3 ((m1.trans m2).fx.trans m) f'
theorem az'{ov iv nv:aJ}(hs:DF i'=aE):augStore i' ov iv nv=(do FK [nv,ov,iv] (JO ov iv nv);release [nv,ov,iv] [];pure .next):=by
 have hi:=oA i';unfold DF at hs;revert hs hi;cases vw i' with
 | no|sl=>exact λh=>dA h.symm
 | const|aM=>exact λ_ hi=>E0 hi λ_ _ e=>e▸rfl
 | bI|call=>exact λ_ hi=>(show i'=_ from hi)▸rfl
 | _=>exact λ_ hi=>mG hi λ_ e=>e▸rfl
theorem oa'{i:E}(wo:qC W)(gX:KO op=u)(hs:DF i'=aE)(ho:∀I,dM W A cl K env I o o')(hi:∀I,dM W A cl K env I i i')(he:∀I,dM W A cl K env I e pe):
  kN W A cl K env (.Je o i op e) (.AugAssign (.Subscript o' i' sp) op pe pos):=λ{I H S s P} f st w Q E q=>by
 show cG _ _ (do
  standAt pos
  let ov <- eval o' env
  let iv <- FK [ov] (eval i' env)
  let new <- FK [ov,iv] do
   standAt sp
   let sP <- G6 ov iv
   let v <- FK [sP] (eval pe env)
   standAt pos
   operate [sP,v] (inplaceOp op sP v)
  standAt sp
  augStore i' ov iv new) Q E s
 refine bN (lP (bN (ho _ f.toFrOk st w _ _ λx H1 w1 μ1 h1 tk1 ov m1 Zf=>bN (jN (hi _ (f.mv st m1).toFrOk m1.st w1 _ _ λk H2 w2 μ2 h2 tk2 iv m2 Rc=>?_)))));have f2:=(f.mv st m1).mv m1.st m2;obtain⟨n,hn,w3⟩:=w2.ok;obtain⟨z,hz,w4⟩:=w3.ok;obtain⟨a,ha,w5⟩:=w4.ok;rw[mW hn]at Rc;obtain⟨t0,rfl⟩:=Rc.cN;rw[mW ha]at hz;have q2:=q.step (tk:=tk2) (m1.trans m2).fx;have Zg:=Zf.mv m1.st m2;have BD:=m2.st;clear f st w w1 w2 w3 w4 Zf q m1 m2 hn ha ho hi Rc;refine bN (jN (bN (lP (bN (ag (s:= {s with heap:=h2,toks:=tk2}) wo.toWOk BD Zg hz _ _ fun μ3 h3 yB sP m3 fN'=>?_)))));obtain⟨t,rfl⟩:=fN'.cN;refine bN (jN (he _ (f2.mv BD m3).toFrOk m3.st w5 _ _ λv H4 w6 μ4 h4 Io aN m4 hu=>bN (lP (JR ?_))));obtain⟨b,hb,w7⟩:=w6.ok;obtain⟨c,hc,w8⟩:=w7.ok;obtain⟨H5,gb',w9⟩:=w8.ok;rw[mW hb]at hu;obtain⟨t',rfl⟩:=hu.cN;have m34:=m3.trans m4;refine ax (s:= {s with heap:=h4,toks:=Io}) gX m4.st hc _ _ fun μ5 h5 Er nv m5 hnv=>?_;refine bN (lP ?_);rw[az' hs];have S7:=m34.trans m5;exact bN (jN (oq (s:= {s with heap:=h5,toks:=Er}) wo.toWOk m5.st (Zg.mv BD S7) hnv gb' fun μ6 h6 tk6 m6=>bN (JS (eF (q2.next w9 (S7.trans m6).fx (f2.mv BD (S7.trans m6)))))))
end
section
variable{P:PS}{b:Y bD}{it:aJ}
variable{W:Wd}{A:dO}{cl:Call}{K:KC}{env:fM}
theorem oo'{c:E}{pos:cZ}(hc:∀I,jC W A cl K env I c pc)(hb:uD W A cl K env b pb):kN W A cl K env (.vC c b) (.While pc pb [] pos):=λ{I H S s P} f st w Q E q=>by
 obtain⟨n,bK,i0,it⟩:=w;refine wpAny_While (codeAny_whileLoop (λn s'=>∃ρk Hk μk hk tk,s'= {s with heap:=hk,toks:=tk}/\bK n (ρk,Hk)/\Mv W (FX env) S s.heap μk Hk hk/\jD W μk hk K env ρk) ?_ n ⟨I,H,S,s.heap,s.toks,rfl,i0,.refl st,f⟩);rintro n s' ⟨ρk,Hk,μk,hk,tk,rfl,ik,mk,fk⟩;refine (hc ρk).tv (s:= {s with heap:=hk,toks:=tk}) (P:=λt h1=>cW t (bQ W.G cl b ρk h1 (kJ (λI h=>∃m,m<n/\bK m (I,h)) (zC (λI h=>∃m,m<n/\bK m (I,h)) P))) (P .next ρk h1)) fk.toFrOk mk.st (it n _ ik) _ _ λt H1 w1 μ1 h1 tk1 m1=>?_;cases t with
 | false=>exact WQ (q.next w1 (mk.trans m1.fx) (fk.mv mk.st m1))
 | true=>
  refine hb (fk.mv mk.st m1) m1.st w1 _ _ λfl ρ2 H2 w2 μ2 h2 tk2 fw m2 f2 hf=>?_;cases fl with
  | next=>
   obtain⟨m,hm,i2⟩:=w2;rw[show fw= .next from hf];exact⟨m,hm,ρ2,H2,μ2,h2,tk2,rfl,i2,(mk.trans m1.fx).trans m2,f2⟩
  | ret v=>
   obtain⟨y,rfl,hv⟩:=hf;exact q _ _ _ w2 μ2 h2 tk2 (.ret y) ((mk.trans m1.fx).trans m2) f2 ⟨y,rfl,hv⟩
  | cont=>
   obtain⟨m,hm,i2⟩:=w2;rw[show fw= .cont from hf];exact⟨m,hm,ρ2,H2,μ2,h2,tk2,rfl,i2,(mk.trans m1.fx).trans m2,f2⟩
def Wi(W:Wd)(A:dO)(env:fM)(target:aK)(it:aJ)(bG:JG->aV->Prop)(B:aV->Prop)(s:aV):Prop:=cG (Mo W) A (pyNext it) (λr s₁=>match r with
   | none=>cG (Mo W) A (execs [] env) (λf s₃=>bG (.ok f) s₃) (JN (Mo W) A env λe s'=>bG (.error e) s') s₁
   | some v=>cG (Mo W) A (Pb target it v) (λ_ rv=>cG (Mo W) A (assign target env v) (λ_ s₂=>B s₂) (JN (Mo W) A env λe s'=>bG (.error e) s') rv) (JN (Mo W) A env λe s'=>bG (.error e) s') s₁) (JN (Mo W) A env λe s'=>bG (.error e) s') s
theorem eB'{body:Y dK}{bG:JG->aV->Prop}(bK:O->aV->Prop)
  (gK:∀n s,bK n s->Wi W A env target it bG (λs₂=>cG (Mo W) A (execs body env) (λf s₃=>match f with
     | .next | .cont=>∃m,m<n/\bK m s₃
     | .brk=>bG (.ok .next) s₃
     | .ret v=>bG (.ok (.ret v)) s₃) (JN (Mo W) A env λe s'=>bG (.error e) s') s₂) s)
  (n:O) (h:bK n s):JK (Mo W) A (.forLoop target it body [] env) bG s:=by
 refine codeAny_loop' rfl bK (λn s hI=>?_) n h;show cG _ _ ((forTurn target it body [] env).onRaise (λx=>do noteFrame x env;theTreesLotGoes x)) _ _ s;refine wpAny_noted ?_;simp only[forTurn];refine bN (lP (bN (wpAny_onRaise (nG (gK n s hI) (λr s₁ h₁=>?_) λ_ _ h'=>lP h'))));cases r with
 | none=>exact eF (.inr ⟨rfl,codeAny_block h₁⟩)
 | some v=>
  refine bN (nG h₁ (λ_ rv gl'=>?_) λ_ _ h'=>h');refine bN (nG gl' (λ_ s₂ h₂=>bN (nG h₂ (λf s₃ h₃=>?_) λ_ _ h'=>h')) λ_ _ h'=>h');cases f with
  | next=>exact eF (.inl ⟨rfl,h₃⟩)
  | cont=>exact eF (.inl ⟨rfl,h₃⟩)
  | brk=>exact eF h₃
  | ret v=>exact eF h₃
def HF(eD:bC->Prop)(h h':bS):Prop:=∀b o,¬ eD b->h.get? b=Z o->h'.get? b=Z o
def u4(W:Wd)(A:dO)(K:KC)(env:fM)(target:aK)(it:aJ)(nx:O->cA->Hp->aG (aG cA))(eD:bC->Prop)(eV:O->Mp->bS->Prop)(s:aV):Prop:=
 ∀{k ρk Hk μk hk tk y},nx k ρk Hk=Z y->St W μk Hk hk->eV k μk hk->(∀a,eD a->¬ gD μk a)->(∀a,eD a->¬ FX env a)->(∀h1,HF eD hk h1->St W μk Hk h1/\jD W μk h1 K env ρk)->∀{bG B},
  (y=aB->∀h' Gp,HF eD hk h'->cG (Mo W) A (execs [] env) (λf s₃=>bG (.ok f) s₃) (JN (Mo W) A env λe s'=>bG (.error e) s') {s with heap:=h',toks:=Gp})->
  (∀ρ1,y=Z ρ1->∀h1 h2 tk2,HF eD hk h1->Mv W (FX env) μk h1 μk Hk h2->jD W μk h2 K env ρ1->eV (k+1) μk h2->B {s with heap:=h2,toks:=tk2})->Wi W A env target it bG B {s with heap:=hk,toks:=tk}
theorem Sy{eV:O->Mp->bS->Prop}{tk1:O}{bG:JG->aV->Prop}(hb:uD W A cl K env b pb)
  (st:St W S H s.heap) (f:jD W S s.heap K env I) (pl:∀a,eD a->s.heap.get? a=aB) (hJ:∀{k μk hk a},eV k μk hk->eD a->fQ (λo=>hk.get? a=Z o) (λo=>¬ lU o))
  (mJ:∀{k μk hk μ' H' h'},eV k μk hk->(∀a,eD a->¬ gD μk a)->(∀a,eD a->¬ FX env a)->Mv W (FX env) μk hk μ' H' h'->TP hk h'->eV k μ' h') (gw:u4 W A K env target it nx eD eV s)
  (k1:∀b o,s.heap.get? b=Z o->h1.get? b=Z o) (j0:eV 0 S h1) (w:oB (Ah nx (bQ W.G cl b) P) (0,I,H)) (q:BV W K env s S P λf s'=>bG (.ok f) s'):
  JK (Mo W) A (.forLoop target it pb [] env) bG {s with heap:=h1,toks:=tk1}:=by
 obtain⟨n,bK,i0,bz⟩:=w;have nX:∀a,eD a->¬ FX env a:=λa hx z=>by
  rcases z with z|⟨z,hz⟩
  ·obtain⟨mm,hm,_⟩:=f.ns
   obtain⟨o,ho⟩:=Ns.has hm;exact cI ((pl a hx).symm.trans (z▸ho))
  ·obtain⟨_,_,_,o,ho⟩:=f.uJ z a hz
   exact cI ((pl a hx).symm.trans ho)
 have m0:=Mv.of_keep st k1;refine eB' (λn s'=>∃k ρk Hk μk hk tk,s'= {s with heap:=hk,toks:=tk}/\bK n (k,ρk,Hk)/\Mv W (FX env) S s.heap μk Hk hk/\jD W μk hk K env ρk/\eV k μk hk/\∀a,eD a->¬ gD μk a) ?_ n
  ⟨0,I,H,S,h1,tk1,rfl,i0,m0.fx,f.mv st m0,j0,λa hx=>(st.sQ (pl a hx)).1⟩
 clear m0 k1 j0 i0;rintro n s' ⟨k,ρk,Hk,μk,hk,tk,rfl,ik,mk,fk,jk,oX⟩;obtain⟨y,hy,w⟩:=(bz n _ ik).ok;have step:∀h1,HF eD hk h1->Mv W (FX env) S s.heap μk Hk h1/\jD W μk h1 K env ρk:=λh1 kp=>by
  have tp:TP hk h1:=λa o e hf=>kp a o (λz=>by obtain⟨o',e',nf⟩:=hJ jk z;exact nf (aT (e.symm.trans e')▸hf)) e;refine⟨mk.xB eD (λa ha=>⟨oX a ha,(st.sQ (pl a ha)).2,pl a ha⟩) (λa o ha e=>by obtain⟨o',e',nf⟩:=hJ jk ha;exact aT (e'.symm.trans e)▸nf) kp,fk.keep tp λb o hb e=>kp b o (λz=>nX b z hb) e⟩
 refine gw hy mk.st jk oX nX (λh1 kp=>⟨(step h1 kp).1.st,(step h1 kp).2⟩) (λe h' Gp kp=>?_) (fun ρ1 e h1 h2 tk2 kp m2 f2 j2=>?_)
 ·rw[e]at w
  exact WQ (q.next w (step h' kp).1 (step h' kp).2)
 ·rw[e]at w
  have mt:=(step h1 kp).1.trans m2;clear step bz hy e kp gw jk mk fk;refine hb (s:= {s with heap:=h2,toks:=tk2}) f2 m2.st w _ _ λfl ρ3 H3 w3 μ3 h3 yB fw m3 f3 hf=>?_;have gK:(∃m,m<n/\bK m (k+1,ρ3,H3))->∃m,m<n/\∃k ρk Hk μk hk tk,({s with heap:=h3,toks:=yB}: aV)= {s with heap:=hk,toks:=tk}/\bK m (k,ρk,Hk)/\Mv W (FX env) S s.heap μk Hk hk/\jD W μk hk K env ρk/\eV k μk hk/\∀a,eD a->¬ gD μk a:=λw3=>by
   obtain⟨m,hm,i3⟩:=w3;refine⟨m,hm,k+1,ρ3,H3,μ3,h3,yB,rfl,i3,mt.trans m3,f3,mJ j2 oX nX m3 (m3.Et m2.st (f2.toFrOk.xI f2.cells)),λa hx=>?_⟩;obtain⟨o,ho,_⟩:=hJ j2 hx;exact m3.jA (oX a hx) ho
  cases fl with
  | cont=>
   rw[show fw= .cont from hf];exact gK w3
  | next=>
   rw[show fw= .next from hf];exact gK w3
  | ret v=>
   obtain⟨y,rfl,hv⟩:=hf;exact q _ _ _ w3 μ3 h3 yB (.ret y) (mt.trans m3) f3 ⟨y,rfl,hv⟩
noncomputable def jl:Y lA:=["enumerate","zip","dict_itemiterator","dict_reverseitemiterator","odict_iterator","itertools.zip_longest","itertools.pairwise"]
theorem N3{o:gQ}{Q:vH->aV->Prop}{E:aJ->aV->Prop}(ho:s.heap.get? bK=Z o)(hc:o.cls= .type T)(hT:jl.contains T=aE)(q:Q () s):cG (Mo W) A (Pb target (.ref bK) w) Q E s:=by
 have go:cG (Mo W) A (do
   let (.ref r,.ref a):=(Vv bK,w)|return
   let o <- load r
   match o.cls,o.data with
   | .type n,.fields vs=>
    if ["enumerate","zip","dict_itemiterator","dict_reverseitemiterator","odict_iterator","itertools.zip_longest","itertools.pairwise"].contains n&&vs[0]?==Z (rawInt a) then
     rule "for.unpacks-the-owned-tuple"
     updateField r 0 .none
   | _,_=>pure ()) Q E s:=by
  cases w with
  | ref a=>
   refine bN (wpAny_load ho ?_);rw[hc];cases hd:o.data with
   | fields vs=>
    show cG _ _ (if (jl.contains T&&vs[0]?==Z (rawInt a))=u then _ else _) Q E s;rw[hT,vy,aR (by decide)];exact eF q
   | _=>exact eF q
  | _=>exact eF q
 cases target<;>first|exact eF q|exact go
theorem qW.own{x:V}(i:qW W S s.heap bK x k){target:aK}{w:aJ}{Q:vH->aV->Prop}{E:aJ->aV->Prop}(q:Q () s):cG (Mo W) A (Pb target (.ref bK) w) Q E s:=by
 cases i with
 | list hp hi=>obtain⟨o,e,hc,hd⟩:=hi;exact N3 e hc (by decide) q
 | aM hz ht hr hi=>obtain⟨o,e,hc,hd⟩:=hi;exact N3 e hc (by decide) q
 | gG hl iI=>exact N3 iI rfl (by decide) q
def Ly(W:Wd)(A:dO)(K:KC)(env:fM)(target:aK)(bind:O->V->cA->aG cA):Prop:=
 ∀{k z I ρ1 w H S} {s:aV} {Q:vH->aV->Prop} {E:aJ->aV->Prop},bind k z I=Z ρ1->jD W S s.heap K env I->St W S H s.heap->cB W S s.heap z w->
  (∀h' tk,Mv W (FX env) S s.heap S H h'->jD W S h' K env ρ1->Q () {s with heap:=h',toks:=tk})->cG (Mo W) A (assign target env w) Q E s
theorem ti{i:O}{x:aU}{px:cZ}(nd:K.vn.Nodup)(hi:K.vn[i]?=Z x)(hk:tF K x):Ly W A K env (.Name x px) (λ_ v I=>Z (I.set i (Z v))):=λ{k z I ρ1 w H S s Q E} hb f st hv q=>by rw[<-aT hb]at q;exact Pg (K5 nd st f hi hk hv q)
theorem eC'{v:aJ}(hh:A.handled=aB)(tg:Ly W A K env target bind)(hb:uD W A cl K env b pb)
  (f:jD W S s.heap K env I) (st:St W S H s.heap) (hv:cB W S s.heap nU v) (w:oB (Ah (wK bind nU) (bQ W.G cl b) P) (0,I,H)) {bG:JG->aV->Prop} {E:aJ->aV->Prop} (q:BV W K env s S P λf s'=>bG (.ok f) s'):
  cG (Mo W) A (Lj v) (λit s₂=>JK (Mo W) A (.forLoop target it pb [] env) bG s₂) E s:=by
 obtain⟨y0,Z9⟩:∃y,zY nU 0 H=Z y:=by
  obtain⟨n,bK,i0,it⟩:=w;obtain⟨y,hy,_⟩:=(it n _ i0).ok;obtain⟨z,hz,_⟩:=dD hy;exact⟨z,hz⟩
 refine kg st hv Z9 λh1 jK hI iI=>?_;refine Sy (eD:=λa=>a=s.heap.objs.size) (eV:=λk S h=>qW W S h s.heap.objs.size nU k) (tk1:=s.toks) hb st f (λa ha=>ha▸hI) (λj ha=>ha▸j.has) (λj oX nX m tp=>j.lL m.mp tp λo e=>m.keep _ o (oX _ rfl) (nX _ rfl) e) ?_ jK iI w q;clear iI jK Z9 hv w q f st;intro k ρk Hk μk hk tk y hy tV jk oX nX kp bG B Al fL;obtain⟨z,hz,hy⟩:=dD hy;refine kh (s:= {s with heap:=hk,toks:=tk}) hh tV jk (oX _ rfl) hz λh1 tk1 aN jK M5 rI=>?_;cases z with
 | none=>
  rw[show aN=aB from rI];exact Al (aT hy).symm h1 tk1 jK
 | some z=>
  cases aN with
  | none=>exact rI.elim
  | some v=>
   obtain⟨ρ1,hb,hy⟩:=dD hy;have bv:=M5 z rfl;refine bv.own (s:= {s with heap:=h1,toks:=tk1}) (tg (s:= {s with heap:=h1,toks:=tk1}) hb (kp h1 jK).2 (kp h1 jK).1 rI λh2 tk2 m2 f2=>?_);refine fL ρ1 (aT hy).symm h1 h2 tk2 jK m2 f2 (bv.lL (λ_ _ e=>e) (m2.Et (kp h1 jK).1 ((kp h1 jK).2.toFrOk.xI (kp h1 jK).2.cells)) λo e=>m2.keep _ o (oX _ rfl) (nX _ rfl) e)
end
class inductive uF (K:KC):Y O->Y aK->Prop where
 | nil:uF K [] []
 | cons{i:O}{x:aU}{p:cZ}{is:Y O}{es:Y aK}(hi:K.vn[i]?=Z x)(hk:tF K x)(t:uF K is es):uF K (i::is) (.Name x p::es)
noncomputable def gj(K:KC)(i:O)(x:aU):aC:=K.vn[i]?==Z x&&(K.kn.lookup x==Z .local||K.kn.lookup x==Z .cell)
theorem gk{i:O}(h:gj K i x=u):K.vn[i]?=Z x/\tF K x:=⟨eq_of_beq (aO h).1,((Dm _ _).mp (aO h).2).imp eq_of_beq eq_of_beq⟩
def Kc(K:KC):Y O->Y aK->aC
 | [],es=>es.isEmpty
 | i::is,es=>MO (λe es=>xU (gj K i) (vw e)&&Kc K is es) es
theorem TR{is:Y O}:∀{es:Y aK},Kc K is es=u->uF K is es:=by
 induction is with
 | nil=>exact λh=>vF.mp h▸ .nil
 | cons i is ih=>
  intro es h;exact QR h λe es h1=>BH (P:=λe=>uF K (i::is) (e::es)) (aO h1).1 λx p h2=>.cons (gk h2).1 (gk h2).2 (ih (aO h1).2)
section
variable{b:Y bD}{es:Y aK}{i:O}{is:Y O}{pos:cZ}{vs:Y V}
variable{W:Wd}{A:dO}{cl:Call}{K:KC}{env:fM}
set_option tactic.hygienic true in
theorem uF.len(n:uF K is es):A3 ((Cd es env).length=es.length) ((Cd es env).findIdx? (·.1)=aB) (is.length=es.length):=by
 induction n with
 | nil=>exact⟨rfl,rfl,rfl⟩
 | cons hi hk t ih=>
  rename_i i x p is es;have e:Cd (.Name x p::es) env=(aE,assign (.Name x p) env)::Cd es env:=rfl;rw[e];exact⟨aW FD ih.1,by rw[List.findIdx?_cons,ih.2];rfl,aW FD ih.3⟩
theorem Kz(h:tS [] vs I=Z ρ1):vs=[]/\I=ρ1:=by
 cases vs with
 | nil=>exact⟨rfl,aT h⟩
 | cons=>exact cI h
theorem Ky(h:tS (i::is) vs I=Z ρ1):AV (λv qU=>vs=v::qU) (λv qU=>tS is qU (I.set i (Z v))=Z ρ1):=by
 cases vs with
 | nil=>exact cI h
 | cons v vs=>exact⟨v,vs,rfl,h⟩
theorem om:∀{vs:Y V} {I ρ1:cA},tS is vs I=Z ρ1->is.length=vs.length:=by
 induction is with
 | nil=>
  intro vs I ρ1 h;rw[(Kz h).1];rfl
 | cons i is ih=>
  intro vs I ρ1 h;obtain⟨v,vs,rfl,h⟩:=Ky h;exact aW FD (ih h)
def JW(W:Wd)(A:dO)(K:KC)(env:fM)(is:Y O)(ts:Y (aJ->rW vH)):Prop:=∀{vs:Y V} {ys:Y aJ} {I ρ1:cA} {S:Mp} {H:Hp} {s:aV} {Q:vH->aV->Prop} {E:aJ->aV->Prop},tS is vs I=Z ρ1->jD W S s.heap K env I->St W S H s.heap->cX W S s.heap vs ys->
  (∀h' tk,Mv W (FX env) S s.heap S H h'->jD W S h' K env ρ1->Q () {s with heap:=h',toks:=tk})->cG (Mo W) A (Vy ts ys) Q E s
theorem qz:JW W A K env [] []:=λ{vs ys I ρ1 S H s Q E} hs f st hr q=>by obtain⟨e1,e2⟩:=Kz hs;rw[e1]at hr;rw[show ys=[] from hr.cN];rw[e2]at f;exact eF (q s.heap s.toks (.refl st) f)
theorem qy{t:aJ->rW vH}{ts:Y (aJ->rW vH)}(nd:K.vn.Nodup)(hi:K.vn[i]?=Z x)(hk:tF K x)(ht:∀{y:aJ} {s:aV} {Q:vH->aV->Prop} {E:aJ->aV->Prop},cG (Mo W) A (storeName env x y) Q E s->cG (Mo W) A (t y) Q E s)(ih:JW W A K env is ts):JW W A K env (i::is) (t::ts):=λ{vs ys I ρ1 S H s Q E} hs f st hr q=>by obtain⟨v,qU,e1,hs⟩:=Ky hs;rw[e1]at hr;obtain⟨y,yF,rfl,hv,By⟩:=hr.cN;show cG _ _ (FK yF (t y) >>= λ_=>Vy ts yF) Q E s;refine bN (jN (ht (K5 nd st f hi hk hv λh1 tk1 m1 f1=>?_)));exact ih (s:= {s with heap:=h1,toks:=tk1}) hs f1 m1.st (By.cV (λ_ _ e=>e) (m1.Et st (f.toFrOk.xI f.cells))) λh' tk m f'=>q h' tk (m1.trans m) f'
theorem gu'(nd:K.vn.Nodup){is:Y O}{es:Y aK}(n:uF K is es):JW W A K env is ((Cd es env).map (·.2)):=by
 induction n with
 | nil=>exact qz
 | cons hi hk t ih=>exact qy nd hi hk (λh=>Pg h) ih
theorem ug{v:V}(h:LD v=Z vs):v= .aM vs:=by cases v<;>first|exact cI h|exact aW V.aM (aT h)
theorem Uh{is:Y O}{es:Y aK}{k:O}{p:cZ}(hh:A.handled=aB)(nd:K.vn.Nodup)(n:uF K is es):Ly W A K env (.Tuple es k p) (λ_ v I=>bE (LD v) λvs=>tS is vs I):=λ{_ z I ρ1 w H S s Q E} hb f st hv q=>by obtain⟨vs,hu,hs⟩:=dD hb;rw[ug hu]at hv;obtain⟨a,items,rfl,hz,ht,hr⟩:=hv.cN;have hl:=n.len (env:=env);refine wpAny_assign_Tuple hh ht.is (by rw[hl.1,<-hl.3,om hs,hr.size]) hl.2 λh' he=>?_;have m0:=Mv.of_keep st (h':=h') (λb o e=>he b o (mK (VK e)) e);exact gu' nd n (s:= {s with heap:=h'}) hs (f.mv st m0) m0.st (hr.mv st m0) λh2 tk m f'=>q h2 tk (m0.fx.trans m) f'
theorem ql{sm:bD}(hh:A.handled=aB)(hs:B5 pi=aE)(tg:Ly W A K env target bind)(hi:∀I,dM W A cl K env I it pi)(hb:uD W A cl K env b pb)
  (RS:∀{I H P},wS W.G cl sm I H P->wE W.G cl it I H λx h=>oB (Ah (wK bind x) (bQ W.G cl b) P) (0,I,h)):kN W A cl K env sm (.For target pi pb [] pos):=λ{I H S s P} f st w Q E q=>
 WP (hi _ f.toFrOk st (RS w) _ _ λx H1 w1 μ1 h1 tk1 v m1 hv=>eC' (s:= {s with heap:=h1,toks:=tk1}) hh tg hb (f.mv st m1) m1.st hv w1 (q.step m1.fx)) (Kd hs env)
theorem oh'{p:cZ}(hh:A.handled=aB)(nd:K.vn.Nodup)(hs:B5 pi=aE)(n:uF K is es)(hi:∀I,dM W A cl K env I it pi)(hb:uD W A cl K env b pb):
  kN W A cl K env (.HX is it b) (.For (.Tuple es k p) pi pb [] pos):=ql (sm:=.HX is it b) (bind:=λ_ v I=>bE (LD v) λvs=>tS is vs I) hh hs (@Uh W A K env is es k p hh nd n) hi hb λw=>w
theorem oi'(hh:A.handled=aB)(nd:K.vn.Nodup)(hs:B5 pi=aE)(hi:K.vn[i]?=Z x)(hk:tF K x)(iI:∀I,dM W A cl K env I it pi)(hb:uD W A cl K env b pb):
  kN W A cl K env (.rE i it b) (.For (.Name x px) pi pb [] pos):=ql (sm:=.rE i it b) (bind:=λ_ v I=>Z (I.set i (Z v))) hh hs (@ti W A K env i x px nd hi hk) iI hb λw=>w
end
noncomputable def Dc(K:KC)(ts:Y aK):Y aU:=
 ts.filterMap fun
  | .Name id pos=>if K.kn.lookup id==Z .local&&pos.line==((ts.head?.map (·.pos.line)).getD 0) then Z id else aB
  | _=>aB
def rm(K:KC)(ts vs:Y aK):aG (aG (Y aU)):=
 cW (!(ts.length==2||ts.length==3)||vs.length != ts.length||false) (Z aB) <|
 cW (vs.any λ| .Starred .. =>u|_=>aE) (Z aB) <|
 cW ((Dc K ts).length != ts.length||(Dc K ts).eraseDups.length != (Dc K ts).length) (Z aB) <|
 cW (vs.all (foldedForSure 8)) (Z aB) <|
 cW (vs.all (constantsAlone 8)) aB (Z (Z (Dc K ts)))
def swV(K:KC)(ts:Y aK):XV->aG (aG (Y aU))
 | .aM vs=>rm K ts vs
 | .no=>aB
 | _=>Z aB
def Ij(K:KC)(ts:Y aK)(e:aK):aG (aG (Y aU)):=swV K ts (vw e)
section
variable{c:aC}{es:Y aK}{i:O}{is:Y O}{p:cZ}{r:aG (Y aU)}{v:V}{x:aG (aG (Y aU))}{xs:Y aU}{y:rW (aG (Y aU))}
theorem OZ{aN:aG (Y aU)}(h:cW c (Z aN) x=Z r)(g:x=Z r->y=pure r):(if c=u then pure aN else y)=pure r:=by
 cases c with
 | true=>exact aW pure (aT h)
 | false=>exact g h
theorem sw2{z:rW (aG (Y aU))}(h:cW c aB x=Z r)(g:x=Z r->y=pure r):(if c=u then z else y)=pure r:=by
 cases c with
 | true=>exact cI h
 | false=>exact g h
theorem oP'{vs:Y aK}{p2:cZ}(hk:env.scope.kind= .function)(hn:env.scope.names=K.kn)(h:rm K ts vs=Z r):JQ [.Tuple ts k p] (.Tuple vs k2 p2) env=pure r:=by
 have hb:env.blockKind= .function:=by unfold wr;rw[hk];rfl
 have Hd:env.kindOf=λx=>K.kn.lookup x:=funext λx=>by unfold Iy;rw[hn]
 unfold JQ;rw[hb,Hd];exact OZ h λh=>OZ h λh=>OZ h λh=>OZ h λh=>sw2 h λh=>aW pure (aT h)
theorem oN'(hk:env.scope.kind= .function)(hn:env.scope.names=K.kn)(h:Ij K ts value=Z r):JQ [.Tuple ts k p] value env=pure r:=by
 have hi:=oA value;unfold Ij at h;revert h hi;cases vw value with
 | no=>exact cI
 | aM=>exact λh hi=>E0 hi λ_ _ e=>e▸oP' hk hn h
 | const=>exact λh hi=>E0 hi λ_ _ e=>e▸aW pure (aT h)
 | bI|call=>exact λh hi=>(show value=_ from hi)▸aW pure (aT h)
 | _=>exact λh hi=>mG hi λ_ e=>e▸aW pure (aT h)
class inductive wX (K:KC):Y O->Y aU->Prop where
 | nil:wX K [] []
 | cons{i:O}{x:aU}{is:Y O}{xs:Y aU}(hi:K.vn[i]?=Z x)(hk:tF K x)(t:wX K is xs):wX K (i::is) (x::xs)
theorem wX.append(n:wX K is xs){js:Y O}{ys:Y aU}(m:wX K js ys):wX K (is++js) (xs++ys):=by
 induction n with
 | nil=>exact m
 | cons hi hk t ih=>exact .cons hi hk ih
theorem wX.reverse(n:wX K is xs):wX K is.reverse xs.reverse:=by
 induction n with
 | nil=>exact .nil
 | cons hi hk t ih=>rw[I9,I9];exact ih.append (.cons hi hk .nil)
theorem cx'(nd:K.vn.Nodup){is:Y O}{xs:Y aU}(n:wX K is xs):JW W A K env is (xs.map λn=>bindName env n):=by
 induction n with
 | nil=>exact qz
 | cons hi hk t ih=>exact qy nd hi hk (λh=>wpAny_bindName h) ih
theorem na':∀{vs:Y V} {I ρ1:cA},i∉is->tS is vs (I.set i (Z v))=Z ρ1->fQ (λr=>tS is vs I=Z r) (λr=>ρ1=r.set i (Z v)):=by
 induction is with
 | nil=>
  intro vs I ρ1 _ h;obtain⟨e1,e2⟩:=Kz h;exact⟨I,by rw[e1];rfl,e2.symm⟩
 | cons j is ih=>
  intro vs I ρ1 hn h;obtain⟨w,qU,rfl,h2⟩:=Ky h;rw[List.set_comm _ _ λ(z:i=j)=>hn (oE.mpr (.inl z))]at h2;exact ih (λz=>hn (tX _ z)) h2
theorem nb':∀{vs:Y V} {I ρ1:cA},tS is vs I=Z ρ1->tS (is++[i]) (vs++[v]) I=Z (ρ1.set i (Z v)):=by
 induction is with
 | nil=>
  intro vs I ρ1 h;obtain⟨e1,e2⟩:=Kz h;rw[e1,e2];rfl
 | cons j is ih=>
  intro vs I ρ1 h;obtain⟨w,qU,rfl,h2⟩:=Ky h;exact ih h2
theorem mZ':∀{vs:Y V} {I ρ1:cA},is.Nodup->tS is vs I=Z ρ1->tS is.reverse vs.reverse I=Z ρ1:=by
 induction is with
 | nil=>
  intro vs I ρ1 _ h;have e:=(Kz h).1;rw[e]at h ⊢;exact h
 | cons i is ih=>
  intro vs I ρ1 nd h;obtain⟨n1,n2⟩:=Dv.mp nd;obtain⟨v,qU,rfl,h2⟩:=Ky h;obtain⟨r,hr,e⟩:=na' n1 h2;rw[I9,I9,e];exact nb' (ih n2 hr)
theorem cX.reverse{xs:Y V}:∀{ys:Y aJ},cX W S h xs ys->cX W S h xs.reverse ys.reverse:=by
 induction xs with
 | nil=>exact λr=>(r.cN:_=[])▸ .nil
 | cons x xs ih=>
  intro ys r;obtain⟨y,yF,rfl,hx,hs⟩:=r.cN;rw[I9,I9];exact (ih hs).append (.cons hx .nil)
set_option tactic.hygienic true in
theorem uF.names(n:uF K is es){p:aU->cZ->aC}: (es.filterMap λ| .Name id pos=>if p id pos then Z id else aB|_=>aB).length=es.length->wX K is (es.filterMap λ| .Name id pos=>if p id pos then Z id else aB|_=>aB):=by
 induction n with
 | nil=>exact λ_=>.nil
 | cons hi hk t ih=>
  intro h;rename_i i x q is es;rw[LV]at h ⊢;dsimp only at h ⊢;by_cases hp:p x q=u
  ·rw[aZ hp]at h ⊢
   exact .cons hi hk (ih (Vo h))
  ·rw[aR hp]at h
   exact absurd (h▸Vb _ es) (zp _)
theorem Oa{n:Y aU}{P:Prop}(h:cW c (Z aB) x=Z (Z n))(g:c=aE->x=Z (Z n)->P):P:=by
 cases c with
 | true=>exact cI (aT h)
 | false=>exact g rfl h
theorem oO'{names:Y aU}(h:Ij K ts pe=Z (Z names)):names=Dc K ts/\names.length=ts.length:=by
 unfold Ij at h;revert h;cases vw pe with
 | no=>exact cI
 | aM=>
  refine λh=>Oa h λ_ h=>Oa h λ_ h=>Oa h λc3 h=>Oa h λ_ h=>?_;revert h;cases List.all _ _ with
  | true=>exact cI
  | false=>
   intro h;rw[<-aT (aT h)];exact⟨rfl,wq λz=>mX (((Dm _ _).mpr (.inl (Dy.mpr z))).symm.trans c3)⟩
 | _=>exact λh=>cI (aT h)
theorem nX'{pos:cZ}{e:E}(hh:A.handled=aB)(nd:K.vn.Nodup)(n:uF K is es)(ndi:is.Nodup)(hc:xQ pe=aE)(hr:Ij K es pe=Z r)(h:∀I,dM W A cl K env I e pe):
  kN W A cl K env (.jE is e) (.Assign [.Tuple es k p] pe pos):=λ{I H S s P} f st w Q E q=>by
 show cG _ _ (do
  standAt pos
  if <- Pf [.Tuple es k p] pe pos.line env then do
   evalThenUse pe env λv=>Vx v ((Cd [.Tuple es k p] env).map (·.2))
   pure .next
  else do
   let v <- eval pe env
   assignStores env v (<- JQ [.Tuple es k p] pe env) ((Cd [.Tuple es k p] env).map (·.2))) Q E s
 have QZ:Pf [.Tuple es k p] pe pos.line env=pure aE:=Ob (t:=Z (.Tuple es k p)) (l:=pos.line) (env:=env) hc;rw[QZ];refine bN (lP (bN (eF (bN (h I f.toFrOk st w _ _ λv H1 w1 μ1 h1 tk1 w m1 hw=>?_)))));obtain⟨vs,hu,w2⟩:=w1.ok;obtain⟨ρ1,hs,w3⟩:=w2.ok;rw[oN' f.kind f.kn hr];refine bN (eF ?_);have f1:=f.mv st m1;cases r with
 | none=>
  show cG _ _ (Vx w [assign (.Tuple es k p) env] >>= λ_=>pure .next) Q E _;exact bN (m:=assign (.Tuple es k p) env w) (@Uh W A K env is es k p hh nd n 0 v I ρ1 w H1 μ1 {s with heap:=h1,toks:=tk1} _ _ ((pB hu).trans hs) f1 m1.st hw λh' tk m f'=>eF (q.next w3 (m1.fx.trans m) f'))
 | some names=>
  obtain⟨en,Ro⟩:=oO' hr;rw[en]at Ro ⊢;have fI':wX K is (Dc K es):=n.names (p:=λid pos=>K.kn.lookup id==Z .local&&pos.line==((es.head?.map (·.pos.line)).getD 0)) Ro;rw[ug hu]at hw;obtain⟨a,items,rfl,hz,ht,By⟩:=hw.cN;show cG _ _ (do
   rule "assign.swapped-stores"
   let items <- unpackItems (.ref a) (Dc K es).length aB
   Vy ((Dc K es).reverse.map λn=>bindName env n) items.reverse
   pure .next) Q E _
  rw[show (Dc K es).length=items.size from Ro.trans ((n.len (env:=env)).3.symm.trans ((om hs).trans By.size))];refine bN (Pi (bN (wpAny_unpackItems_tuple hh ht.is λh' he=>?_)));have m0:=Mv.of_keep m1.st (h':=h') (λb o e=>he b o (mK (VK e)) e);refine bN (cx' (s:= {s with heap:=h',toks:=tk1}) nd fI'.reverse (mZ' ndi hs) (f1.mv m1.st m0) m0.st ((By.mv m1.st m0).reverse) λh2 tk m f'=>?_);exact eF (q.next w3 ((m1.fx.trans m0.fx).trans m) f')
end
section
variable{i:O}
theorem iV.B6(r:iV W S h es bX):bX.map (·.1)=es.map (·.1):=by
 induction r with
 | nil=>rfl
 | cons hx _ ih=>exact aW _ ih
theorem gW'{it d:bC}{n:O}(hi:h.IsKeyIter it d i n ep):fQ (λo=>h.get? it=Z o) (λo=>¬ lU o):=by obtain⟨o,e,hc,hd⟩:=hi;exact⟨o,e,λz=>by rcases z with⟨a,_⟩|⟨a,_⟩<;>exact absurd (hc.symm.trans a) (by decide)⟩
theorem gC'{k:J}{v:aJ}(h:(nF W.prog W.w).is k v=u){S:Mp}{hp:bS}: cB W S hp (.int k) v:=
 let ⟨_,e⟩:=Value.isInt_shape h
 e▸ .int _ _
theorem of'{pos:cZ}{b:Y bD}(wo:WOk W)(hh:A.handled=aB)(nd:K.vn.Nodup)(hs:B5 pi=aE)(hi:K.vn[i]?=Z x)(nI:tF K x)(iI:∀I,dM W A cl K env I it pi)(hb:uD W A cl K env b pb):
  kN W A cl K env (.HW i it b) (.For (.Name x px) pi pb [] pos):=λ{I H S s P} f st w Q E q=>by
 refine WP (iI _ f.toFrOk st w _ _ λx0 H1 w1 μ1 h1 tk1 v m1 hv=>?_) (Kd hs env);obtain⟨l,hl,w2⟩:=w1.ok;obtain⟨p,hp,w3⟩:=w2.ok;obtain⟨ep,he,w4⟩:=w3.ok;rw[yD hl]at hv;obtain⟨d,bX,n,rfl,hm,R9,F0,Y1,Y4⟩:=m1.st.dictAt wo (MP hp) hv;refine wpAny_pyIter_dict (s:= {s with heap:=h1,toks:=tk1}) R9 F0 ?_;have Hc:bX.length=(p.1.map (·.1)).length:=by rw[<-Y1.B6,cJ]
 rw[Hc,Y4 ep he];have nf:∀{k:O} {μk:Mp} {hk:bS},(hk.IsKeyIter h1.objs.size d k (p.1.map (·.1)).length ep/\μk[l]?=Z (d,aB))->fQ (λo=>hk.get? h1.objs.size=Z o) (λo=>¬ lU o):=λj=>gW' j.1;refine Sy (s:= {s with heap:=h1,toks:=tk1}) (eD:=λa=>a=h1.objs.size) (eV:=λk S h=>h.IsKeyIter h1.objs.size d k (p.1.map (·.1)).length ep/\S[l]?=Z (d,aB)) (tk1:=tk1) hb m1.st (f.mv st m1)
  (λa ha=>ha▸AN (cE _)) (λj ha=>ha▸nf j)
  (λ{k μk hk μ' H' h'} j oX nX m tp=>⟨let ⟨o,e,r⟩:=j.1;⟨o,m.keep _ o (oX _ rfl) (nX _ rfl) e,r⟩,m.mp _ _ j.2⟩) ?_ (λb o e=>sV _ e) ⟨⟨_,Do _ rfl,rfl,rfl⟩,hm⟩ w4 (q.step m1.fx)
 clear w4 w3 w2 w1 w F0 Y1 Y4 R9 hm hv iI hb f st q m1 hp Hc he hl;intro k ρk Hk μk hk tk y hy tV jk oX nX kp bG B Al fL;obtain⟨p',Bw,hy⟩:=dD hy;obtain⟨hc,hy⟩:=iY hy;have Mx:p'.1.map (·.1)=p.1.map (·.1):=fY (aO hc).1;obtain⟨d',GL,n',e1,KA,qG',RO,Y2,Y5⟩:=tV.dictAt wo (MP Bw) (.ref jk.2);have Ao:GL.length=(p.1.map (·.1)).length:=by rw[<-Mx,<-Y2.B6,cJ]
 have ik:=jk.1;rw[<-Cc e1]at RO;rw[<-Ao,<-Y5 ep (fY (aO hc).2)]at ik;cases Br:(p.1.map (·.1))[k]? with
 | none=>
  rw[Br]at hy;exact wpAny_pyNext_dict_end (s:= {s with heap:=hk,toks:=tk}) hh ik RO (lF (Ao▸yd.mp Br)) λh' he=>Al (aT hy).symm h' tk λb o hb e=>he b o hb e
 | some ky=>
  rw[Br]at hy;rw[<-Mx,<-Y2.B6,fJ]at Br;obtain⟨kv,He,e2⟩:=Ca.mp Br;refine wpAny_pyNext_dict_item (s:= {s with heap:=hk,toks:=tk}) ik RO (k:=ky) (v:=kv.2) (e2▸He) λkey h' C6 C5 KB=>?_;have nT:HF (λa=>a=h1.objs.size) hk h':=λb o hb e=>(KB.2 b hb).trans e;obtain⟨o,e,Fy,Ha⟩:=id C5;refine N3 (s:= {s with heap:=h',toks:=tk}) e Fy (by decide) (@ti W A K env i x px nd hi nI k (.int ky) ρk _ key Hk μk {s with heap:=h',toks:=tk} _ _ rfl (kp h' nT).2 (kp h' nT).1 (gC' C6) λh2 tk2 m2 f2=>?_);rw[Ao,Y5 ep (fY (aO hc).2)]at C5;exact fL _ (aT hy).symm h' h2 tk2 nT m2 f2 ⟨let ⟨o,e,r⟩:=C5;⟨o,m2.keep _ o (oX _ rfl) (nX _ rfl) e,r⟩,jk.2⟩
end
section
variable{a e it l:bC}{b:Y bD}{es:Y aK}{i x:O}
def FS(l it e:bC)(a k:O)(S:Mp)(h:bS):Prop:=rA (λo=>IsEnum h e it (k:J) o) (λ_=>h.IsListIter it l k) (λ_=>S[a]?=Z (l,aB))
theorem ea'{k:J}{o:aJ}(i:IsEnum h e it k o):fQ (λo=>h.get? e=Z o) (λo=>¬ lU o):=⟨_,i,Ju rfl (by decide) (by decide)⟩
theorem FS.has(j:FS l it e a k S h){x:bC}(hx:x=e\/x=it):fQ (λo=>h.get? x=Z o) (λo=>¬ lU o):=by
 obtain⟨o,h1,⟨oi,ei,hc,hd⟩,_⟩:=j;rcases hx with hx|hx
 exact hx▸ea' h1;exact hx▸⟨oi,ei,Ju hc (by decide) (by decide)⟩
theorem FS.keep(j:FS l it e a k S h)(hm:∀(i:O) p,S[i]?=Z p->μ'[i]?=Z p)(hk:∀b o,b=e\/b=it->h.get? b=Z o->h'.get? b=Z o):FS l it e a k μ' h':=
 let ⟨o,h1,⟨oi,ei,r⟩,h3⟩:=j
 ⟨o,hk e _ (.inl rfl) h1,⟨oi,hk it _ (.inr rfl) ei,r⟩,hm _ _ h3⟩
theorem dZ'{k0:O}{a:O}{v:aJ}{P:PS}(hh:A.handled=aB)(nd:K.vn.Nodup)(nm:uF K [i,x] es)(hb:uD W A cl K env b pb)
  (f:jD W S s.heap K env I) (st:St W S H s.heap) (hv:cB W S s.heap (.ref a) v) (w:oB (Ah (wK (λk v I=>Z ((I.set i (Z (.int k))).set x (Z v))) (.ref a)) (bQ W.G cl b) P) (0,I,H)) {bG:JG->aV->Prop} {E:aJ->aV->Prop}
  (q:BV W K env s S P λf s'=>bG (.ok f) s'):
  cG (Mo W) A (call (.type "enumerate") [v]) (λy s₁=>cG (Mo W) A (Lj y) (λit s₂=>JK (Mo W) A (.forLoop (.Tuple es k0 pt) it pb [] env) bG s₂) E s₁) E s:=by
 obtain⟨xs0,Hf⟩:∃xs,lK H a=Z xs:=by
  obtain⟨n,bK,i0,it⟩:=w;obtain⟨y,hy,_⟩:=(it n _ i0).ok;obtain⟨z,hz,_⟩:=dD hy;obtain⟨xs,hx,_⟩:=dD hz;exact⟨xs,hx⟩
 obtain⟨l,ia0,rfl,ND,ZK,hr0,KL⟩:=st.rL (wG Hf) hv;refine call_enumerate_list ZK.is λh1 Fw Ms SA jK=>wpAny_pyIter_enum Fw ?_;have pl:∀x,x=s.heap.objs.size+1\/x=s.heap.objs.size->s.heap.get? x=aB:=λx hx=>by
  rcases hx with hx|hx
  exact hx▸AN (nC _);exact hx▸AN (cE _)
 have gF:s.heap.objs.size+1≠s.heap.objs.size:=Nat.succ_ne_self _;generalize s.heap.objs.size=it at Fw Ms gF pl ⊢;generalize it+1=e at Fw gF pl ⊢;refine Sy (eD:=λa=>a=e\/a=it) (eV:=λk S h=>FS l it e a k S h) (tk1:=s.toks) hb st f pl (λj ha=>j.has ha)
  (λj oX nX m tp=>j.keep m.mp λb o hb e=>m.keep b o (oX b hb) (nX b hb) e) ?_ jK ⟨_,Fw,Ms,ND⟩ w q
 clear w q hr0 KL ZK ND Hf Ms Fw jK hv st f SA pl hb;intro k ρk Hk μk hk tk y hy tV jk oX nX kp bG B Al fL;obtain⟨z,hz,hy⟩:=dD hy;obtain⟨xs,hl,hz⟩:=dD hz;obtain⟨sP,ek,lk,pk⟩:=id jk;obtain⟨l',ia,e1,mQ,xM,hr,_⟩:=tV.rL (wG hl) (.ref pk);rw[<-Cc e1]at xM;have hg:=hr.Q2 k;rw[aT hz]at hg;cases hx:(ia[k]?:aG aJ) with
 | none=>
  rw[hx]at hg;cases z with
  | some z=>exact hg.elim
  | none=>exact wpAny_pyNext_enum_end (s:= {s with heap:=hk,toks:=tk}) hh ek lk xM.is hx λh' he=>Al (aT hy).symm h' tk λb o hb e'=>he b o (λz=>hb (.inr z)) e'
 | some w=>
  rw[hx]at hg;cases z with
  | none=>exact cI hg.symm
  | some z=>
   refine wpAny_pyNext_enum_item (s:= {s with heap:=hk,toks:=tk}) ek lk xM.is hx gF λh2 Mq ER Mu EZ jU=>?_;refine wpAny_letOwnedTupleGo_enum (s:= {s with heap:=h2,toks:=tk+1}) Mq λh3 EQ Ap=>?_;have tO:HF (λa=>a=e\/a=it) hk h3:=λb o hb e'=>(Ap.2 b λz=>hb (.inl z)).trans (jU b o (λz=>hb (.inl z)) (λz=>hb (.inr z)) e');have tp:TP hk h3:=λa o e' hf=>tO a o (λz=>by
    obtain⟨o',h5,nf⟩:=jk.has z;exact nf (aT (e'.symm.trans h5)▸hf)) e'
   have j3:FS l it e a (k+1) μk h3:=⟨_,EQ,let ⟨o,eo,r⟩:=ER;⟨o,(Ap.2 _ gF.symm).trans eo,r⟩,pk⟩;refine @Uh W A K env [i,x] es k0 pt hh nd nm 0 (.aM [.int k,z]) ρk _ (.ref hk.objs.size) Hk μk {s with heap:=h3,toks:=tk+1} _ _ rfl (kp h3 tO).2 (kp h3 tO).1 ?_ λh4 Io m4 f4=>?_;exact .Ip (show 2<=aF from Vj rfl) ⟨_,(Ap.2 _ (rU (VK ek))).trans Mu⟩ (.cons (.int _ _) (.cons (hg.cV (λ_ _ e=>e) tp) .nil));exact fL _ (aT hy).symm h3 h4 Io tO m4 f4 (j3.keep m4.mp λb o hb e=>m4.keep b o (oX b hb) (nX b hb) e)
theorem og'{pos pc pe:cZ}{l:E}{l':aK}(gl:HE W K.gl)(en:Lr W K.gl)(hh:A.handled=aB)(nd:K.vn.Nodup)(nm:uF K [i,x] es)(hkn:K.kn.lookup (bR "enumerate")=Z .globalImplicit)(RZ:(K.gl (bR "enumerate")).isSome=u)
  (nL:wJ [l']=u) (hl:∀I,dM W A cl K env I l l') (hb:uD W A cl K env b pb):
  kN W A cl K env (.Jr i x l b) (.For (.Tuple es k pt) (.Call (.Name (bR "enumerate") pe) [l'] [] pc) pb [] pos):=λ{I H S s P} f st w Q E q=>by
 obtain⟨vn,Z3⟩:=rV.mp RZ;obtain⟨n,e1,kG⟩:=en vn Z3;obtain⟨y,hr,hy⟩:=gl _ _ Z3;rw[e1]at hr;rw[aT (hr.cN.symm.trans kG)]at hy;refine WP ?_ (Kd rfl env);have P6:eval (.Call (.Name (bR "enumerate") pe) [l'] [] pc) env=(do Lh pc (<- eval (.Name (bR "enumerate") pe) env) [] (JJ pc (FM [l'] env)) []):=rfl;rw[P6];refine bN (wh f.kind (f.GK hkn) ?_ (by decide));have go:∀{P:aJ->aV->Prop},P (.type "enumerate") s->cG (Mo W) A (loadGlobal env (bR "enumerate")) P E s:=λ{P} hP=>by
  rcases hy with⟨mg,h1,h2⟩|⟨mg,mb,h1,h2,h3,h4⟩
  exact wj (f.C3▸Ci st h1) h2 hP;exact wi (f.C3▸Ci st h1) h2 (f.blt▸Ci st h3) h4 hP
 refine go ?_;refine QM (L9 pc env nL) (Qg (L9 pc env nL) ?_);rw[Fd pc env nL];refine K3 ?_;refine hl _ f.toFrOk st w _ _ λv H1 w1 μ1 h1 tk1 y m1 hv=>?_;obtain⟨a,ha,w2⟩:=w1.ok;rw[yD ha]at hv;exact⟨tE.type,rfl,dZ' (s:= {s with heap:=h1,toks:=tk1}) hh nd nm hb (f.mv st m1) m1.st hv w2 (q.step m1.fx)⟩
end
section
variable{dY t:aK}{e:E}{i:O}{pos:cZ}{sc:oG}
set_option genCtorIdx false
noncomputable def cr(K:KC)(x:aU):aC:=K.kn.lookup x==Z .local||K.kn.lookup x==Z .cell
theorem hE'(h:cr K x=u):tF K x:=((Dm _ _).mp h).imp eq_of_beq eq_of_beq
noncomputable def Ua(K:KC)(t:aU)(tp:cZ)(scope:oG)(Ct:cZ):aC:=
 K.kn.lookup t==Z .local&&tp.line==Ct.line && !(scope.names.any λ(n,k)=>n==t&&(k== .local||k== .cell))
theorem Ub{gens:Y VG}{t:aU}{tp:cZ}{l:O}(hk:env.scope.kind= .function)(hn:env.scope.names=K.kn):
  Ln (.ListComp dY gens scope Ct) (Z (.Name t tp)) l env=pure (Ua K t tp scope Ct):=by
 have hb:env.blockKind= .function:=by unfold wr;rw[hk];rfl
 have Hd:env.kindOf t=K.kn.lookup t:=by unfold Iy;rw[hn]
 show (pure (env.blockKind== .function&&env.kindOf t==Z .local&&tp.line==Ct.line && !(scope.names.any λ(n,k)=>n==t&&(k== .local||k== .cell))):rW aC)=_;rw[hb,Hd];rfl
def P4:XV->aC:=Km λ_ _ _ _ _=>u
def L4(v:aK)(x:XV):aC:=P4 x || !xQ v
inductive SV where
 | no
 | ret(v:aG aK)
 | expr(v:aK)
 | cU(t v:aK)
 | AX(t:aK)(o:FG)(v:aK)
 | ite(c:aK)(t e:Y dK)
 | vC(c:aK)(b:Y dK)
 | Mb(t it:aK)(b:Y dK)
 | A1
 | cont
variable{P:SV->Prop}{v:SV}
noncomputable def sg(f:aK->SV):Y aK->SV
 | []=>.no
 | t::r=>match r with
  | []=>f t
  | _::_=>.no
noncomputable def nE(v:SV):Y dK->SV
 | []=>v
 | _::_=>.no
set_option backward.match.sparseCases false in
def vz:dK->SV
 | .Return v _=>.ret v
 | .Expr v _=>.expr v
 | .Assign ts v _=>sg (λt=>.cU t v) ts
 | .AugAssign t o v _=>.AX t o v
 | .If c t e _=>.ite c t e
 | .While c b o _=>nE (.vC c b) o
 | .For t it b o _=>nE (.Mb t it b) o
 | .Pass _=>.A1
 | .Continue _=>.cont
 | _=>.no
def SV.is(s:dK):SV->Prop
 | .no=>True
 | .ret v=>jO λp=>s= .Return v p
 | .expr v=>jO λp=>s= .Expr v p
 | .cU t v=>jO λp=>s= .Assign [t] v p
 | .AX t o v=>jO λp=>s= .AugAssign t o v p
 | .ite c t e=>jO λp=>s= .If c t e p
 | .vC c b=>jO λp=>s= .While c b [] p
 | .Mb t it b=>jO λp=>s= .For t it b [] p
 | .A1=>jO λp=>s= .Pass p
 | .cont=>jO λp=>s= .Continue p
theorem Di(s:dK):(vz s).is s:=by
 cases s with
 | Return|Expr|AugAssign|If|Pass|Continue=>exact⟨_,rfl⟩
 | Assign ts v p=>cases ts with
  | nil=>exact trivial
  | cons t r=>cases r with
   | nil=>exact⟨_,rfl⟩
   | cons=>exact trivial
 | While c b o p=>cases o with
  | nil=>exact⟨_,rfl⟩
  | cons=>exact trivial
 | For t it b o p=>cases o with
  | nil=>exact⟨_,rfl⟩
  | cons=>exact trivial
 | _=>exact trivial
noncomputable def Nw(f:aG aK->aC):SV->aC
 | .ret v=>f v
 | _=>aE
theorem ju'{f:aG aK->aC}(h:Nw f v=u)(g:∀v,f v=u->P (.ret v)):P v:=by cases v<;>first|exact dA h|exact g _ h
theorem vk{f:aG aK->aC}{e:dK}{P:dK->Prop}(h:Nw f (vz e)=u)(g:∀v p,f v=u->P (.Return v p)):P e:=
 ju' (P:=λv=>v.is e->P e) h (λv h1 hi=>mG hi λp hi=>hi▸g v p h1) (Di e)
noncomputable def Ti(f:aK->aC):SV->aC
 | .expr v=>f v
 | _=>aE
theorem jn'{f:aK->aC}(h:Ti f v=u)(g:∀v,f v=u->P (.expr v)):P v:=by cases v<;>first|exact dA h|exact g _ h
theorem qn'{f:aK->aC}{e:dK}{P:dK->Prop}(h:Ti f (vz e)=u)(g:∀v p,f v=u->P (.Expr v p)):P e:=
 jn' (P:=λv=>v.is e->P e) h (λv h1 hi=>mG hi λp hi=>hi▸g v p h1) (Di e)
noncomputable def GX(f:aK->aK->aC):SV->aC
 | .cU t v=>f t v
 | _=>aE
theorem jd'{f:aK->aK->aC}(h:GX f v=u)(g:∀t v,f t v=u->P (.cU t v)):P v:=by cases v<;>first|exact dA h|exact g _ _ h
theorem LJ{f:aK->aK->aC}{e:dK}{P:dK->Prop}(h:GX f (vz e)=u)(g:∀t v p,f t v=u->P (.Assign [t] v p)):P e:=
 jd' (P:=λv=>v.is e->P e) h (λt v h1 hi=>mG hi λp hi=>hi▸g t v p h1) (Di e)
noncomputable def Nt(f:aK->FG->aK->aC):SV->aC
 | .AX t o v=>f t o v
 | _=>aE
theorem jf'{f:aK->FG->aK->aC}(h:Nt f v=u)(g:∀t o v,f t o v=u->P (.AX t o v)):P v:=by cases v<;>first|exact dA h|exact g _ _ _ h
theorem vj{f:aK->FG->aK->aC}{e:dK}{P:dK->Prop}(h:Nt f (vz e)=u)(g:∀t o v p,f t o v=u->P (.AugAssign t o v p)):P e:=
 jf' (P:=λv=>v.is e->P e) h (λt o v h1 hi=>mG hi λp hi=>hi▸g t o v p h1) (Di e)
noncomputable def Tj(f:aK->Y dK->Y dK->aC):SV->aC
 | .ite c t e=>f c t e
 | _=>aE
theorem jq'{f:aK->Y dK->Y dK->aC}(h:Tj f v=u)(g:∀c t x,f c t x=u->P (.ite c t x)):P v:=by cases v<;>first|exact dA h|exact g _ _ _ h
theorem zIf{f:aK->Y dK->Y dK->aC}{e:dK}{P:dK->Prop}(h:Tj f (vz e)=u)(g:∀c t x p,f c t x=u->P (.If c t x p)):P e:=
 jq' (P:=λv=>v.is e->P e) h (λc t x h1 hi=>mG hi λp hi=>hi▸g c t x p h1) (Di e)
noncomputable def To(f:aK->Y dK->aC):SV->aC
 | .vC c b=>f c b
 | _=>aE
theorem jy'{f:aK->Y dK->aC}(h:To f v=u)(g:∀c b,f c b=u->P (.vC c b)):P v:=by cases v<;>first|exact dA h|exact g _ _ h
theorem qp'{f:aK->Y dK->aC}{e:dK}{P:dK->Prop}(h:To f (vz e)=u)(g:∀c b p,f c b=u->P (.While c b [] p)):P e:=
 jy' (P:=λv=>v.is e->P e) h (λc b h1 hi=>mG hi λp hi=>hi▸g c b p h1) (Di e)
noncomputable def IH(f:aK->aK->Y dK->aC):SV->aC
 | .Mb t it b=>f t it b
 | _=>aE
theorem jo'{f:aK->aK->Y dK->aC}(h:IH f v=u)(g:∀t it b,f t it b=u->P (.Mb t it b)):P v:=by cases v<;>first|exact dA h|exact g _ _ _ h
theorem Os{f:aK->aK->Y dK->aC}{e:dK}{P:dK->Prop}(h:IH f (vz e)=u)(g:∀t it b p,f t it b=u->P (.For t it b [] p)):P e:=
 jo' (P:=λv=>v.is e->P e) h (λt it b h1 hi=>mG hi λp hi=>hi▸g t it b p h1) (Di e)
noncomputable def SY:SV->aC
 | .A1=>u
 | _=>aE
theorem gJ'(h:SY v=u)(g:P .A1):P v:=by cases v<;>first|exact dA h|exact g
theorem qo'{e:dK}{P:dK->Prop}(h:SY (vz e)=u)(g:∀p,P (.Pass p)):P e:=
 gJ' (P:=λv=>v.is e->P e) h (λhi=>mG hi λp hi=>hi▸g p) (Di e)
noncomputable def SU:SV->aC
 | .cont=>u
 | _=>aE
theorem gF'(h:SU v=u)(g:P .cont):P v:=by cases v<;>first|exact dA h|exact g
theorem qm'{e:dK}{P:dK->Prop}(h:SU (vz e)=u)(g:∀p,P (.Continue p)):P e:=
 gF' (P:=λv=>v.is e->P e) h (λhi=>mG hi λp hi=>hi▸g p) (Di e)
noncomputable def Xb(f:dK->Y dK->aC):Y dK->aC
 | x::xs=>f x xs
 | []=>aE
theorem dB'{f:dK->Y dK->aC}{l:Y dK}{P:Y dK->Prop}(h:Xb f l=u)(g:∀x xs,f x xs=u->P (x::xs)):P l:=by
 cases l with
 | nil=>exact dA h
 | cons x xs=>exact g x xs h
def Ki(K:KC)(i:O)(x:aU):aC:=K.vn[i]?==Z x&&cr K x
theorem GV(h:Ki K i x=u):K.vn[i]?=Z x/\tF K x:=⟨eq_of_beq (aO h).1,hE' (aO h).2⟩
mutual
def tz(K:KC):bD->SV->aC
 | .fail,_=>u
 | .A1,ps=>SY ps
 | .cont,ps=>SU ps
 | .DW,ps=>Nw (λv=>v.isNone) ps
 | .ret e,ps=>Nw (λv=>IJ (λx=>eK K.kn K e (vw x)) aE v) ps
 | .expr e,ps=>Ti (λx=>GY (λ_ _ _=>eK K.kn K e (vw x)) (vw x)) ps
 | .cU i e,ps=>GX (λt v=>xU (λx=>L4 v (vw v)&&Ki K i x&&eK K.kn K e (vw v)) (vw t)) ps
 | .jE is e,ps=>GX (λt v=>II (λes=> !xQ v&&Kc K is es&&decide is.Nodup&&(Ij K es v).isSome&&eK K.kn K e (vw v)) (vw t)) ps
 | .dU o a e,ps=>GX (λt v=>Kj (λo' x _=> !xQ v&&K.an a==Z x&&eK K.kn K o (vw o')&&eK K.kn K e (vw v)) (vw t)) ps
 | .sA o i e,ps=>GX (λt v=>GZ (λo' i'=> !xQ v&&eK K.kn K o (vw o')&&eK K.kn K i (vw i')&&eK K.kn K e (vw v)) (vw t)) ps
 | .Jd o lo hi e,ps=>GX (λt v=>GZ (λo' s=>Nx (λl aN=> !xQ v&&eK K.kn K o (vw o')&&IJ (λx=>eK K.kn K lo (vw x)) (IE lo) l&&IJ (λx=>eK K.kn K hi (vw x)) (IE hi) aN&&eK K.kn K e (vw v)) (vw s)) (vw t)) ps
 | .AX i op e,ps=>Nt (λt o v=>xU (λx=>o==op&&KO op&&Ki K i x&&eK K.kn K e (vw v)) (vw t)) ps
 | .Je o i op e,ps=>Nt (λt p v=>GZ (λo' i'=>p==op&&KO op && !DF i'&&eK K.kn K o (vw o')&&eK K.kn K i (vw i')&&eK K.kn K e (vw v)) (vw t)) ps
 | .cP c t f,ps=>Tj (λc' t' f'=>eK K.kn K c (vw c')&&BG K t t'&&BG K f f') ps
 | .vC c b,ps=>To (λc' b'=>eK K.kn K c (vw c')&&BG K b b') ps
 | .rE i it b,ps=>IH (λt dZ b'=>xU (λx=> !B5 dZ&&Ki K i x&&eK K.kn K it (vw dZ)&&BG K b b') (vw t)) ps
 | .HW i it b,ps=>IH (λt dZ b'=>xU (λx=> !B5 dZ&&Ki K i x&&eK K.kn K it (vw dZ)&&BG K b b') (vw t)) ps
 | .HX is it b,ps=>IH (λt dZ b'=>II (λes=> !B5 dZ&&Kc K is es&&eK K.kn K it (vw dZ)&&BG K b b') (vw t)) ps
 | .Jr i x l b,ps=>IH (λt dZ b'=>II (λes=>GY (λf as _=>xU (λz=>RM (λl'=>Kc K [i,x] es&&z==bR "enumerate"&&K.kn.lookup (bR "enumerate")==Z .globalImplicit&&(K.gl (bR "enumerate")).isSome&&wJ [l']&&eK K.kn K l (vw l')&&BG K b b') as) (vw f)) (vw dZ)) (vw t)) ps
def BG(K:KC):Y bD->Y dK->aC
 | [],ps=>ps.isEmpty
 | s::ss,ps=>Xb (λp ps=>tz K s (vz p)&&BG K ss ps) ps
end
section
variable{v:aK}
theorem pE'{it:aK}{P:E->Prop}(h:eK kn K e (.comp dY t it ifs sc)=u)(a:∀x y z,eK kn K (.comp x y z) (.comp dY t it ifs sc)=u->P (.comp x y z))(b:∀x y z c,eK kn K (.Bd x y z c) (.comp dY t it ifs sc)=u->P (.Bd x y z c)):P e:=by cases e<;>first|exact dA h|exact a _ _ _ h|exact b _ _ _ _ h
theorem nV'{p:cZ}(ok:D7 W A cl K)(hi:K.vn[i]?=Z x/\tF K x)(h:eK K.kn K e (.comp dY t dZ ifs sc)=u)(Bz:Ua K x px sc p=u):kN W A cl K env (.cU i e) (.Assign [.Name x px] (.ListComp dY [⟨t,dZ,ifs,0⟩] sc p) pos):=by
 refine pE' (P:=λe=>kN W A cl K env (.cU i e) _) h (λFn dN it h=>?_) λFn dN it c0 h=>?_
 ·
  refine BH (P:=λt=>kN W A cl K env _ (.Assign [_] (.ListComp dY [⟨t,dZ,ifs,0⟩] sc p) pos)) (show xU _ (vw t)=u from h) λy py h2=>?_;have h3:=aO (aO h2).1;rw[vF.mp (aO h3.1).1];exact λ{I H S s P}=>qk (ev:=.comp Fn dN it) (gK:=λI v hh q=>wE W.G cl Fn (I.set dN (Z v)) hh λy h'=>q (Z y) h') ok.handled ok.nd hi.1 hi.2 (MN (aO h3.1).2) (λhk hn=>(Ub hk hn).trans (aW pure Bz)) (λI=>(eX ok it K.kn dZ h3.2 env I).ev)
   (λI=>uf λC v=>(eX ok Fn _ dY (aO h2).2 _ _).ev) λI H P w=>w
 ·
  refine BH (P:=λt=>kN W A cl K env _ (.Assign [_] (.ListComp dY [⟨t,dZ,ifs,0⟩] sc p) pos)) (show xU _ (vw t)=u from h) λy py h2=>?_;refine RN (P:=λifs=>kN W A cl K env _ (.Assign [_] (.ListComp dY [⟨.Name y py,dZ,ifs,0⟩] sc p) pos)) h2 λc' h3=>?_;have h4:=aO (aO h3).1;exact λ{I H S s P}=>qk (ev:=.Bd Fn dN it c0) (gK:=λI v hh q=>wE W.G cl c0 (I.set dN (Z v)) hh λt An=>bZ (tW t) λb=>cW b (wE W.G cl Fn (I.set dN (Z v)) An λy h'=>q (Z y) h') (q aB An)) ok.handled ok.nd hi.1 hi.2 (MN (aO h4.1).1) (λhk hn=>(Ub hk hn).trans (aW pure Bz)) (λI=>(eX ok it K.kn dZ (aO h4.1).2 env I).ev)
   (λI=>ue (λC v=>eX ok c0 _ c' (aO h3).2 _ _) λC v=>(eX ok Fn _ dY h4.2 _ _).ev) λI H P w=>w
theorem nv'{x:XV}(h:P4 x=aE)(h0:L4 v x=u):xQ v=aE:=by unfold L4 at h0;rw[h]at h0;exact sM h0
theorem nY'(ok:D7 W A cl K)(h0:L4 v (vw v)=u)(hi:K.vn[i]?=Z x/\tF K x)(h:eK K.kn K e (vw v)=u):kN W A cl K env (.cU i e) (.Assign [.Name x px] v pos):=by
 have go:=λhs=>@nS' W A cl K env i x px e v pos ok.nd hi.1 hi.2 hs λI=>(eX ok e K.kn v h env I).ev;cases hc:P4 (vw v) with
 | false=>exact λ{I H S s P}=>go λhk hn=>Ob (nv' hc h0)
 | true=>
  revert h go;refine Uv (P:=λv=>eK K.kn K e (vw v)=u->((env.scope.kind= .function->env.scope.names=K.kn->Ln v (Z (.Name x px)) pos.line env=pure aE)->kN W A cl K env (.cU i e) (.Assign [.Name x px] v pos))->kN W A cl K env _ (.Assign _ v pos)) hc λdY t it ifs sc p _ h go=>?_;cases Bz:Ua K x px sc p with
  | false=>exact go λhk hn=>(Ub hk hn).trans (aW pure Bz)
  | true=>exact nV' ok hi h Bz
end
theorem ji'{v:XV}(h:GY (λ_ _ _=>b) v=u):b=u:=iu (P:=λ_=>b=u) h λ_ _ _ h=>h
def jI(W:Wd)(A:dO)(cl:Call)(K:KC)(st:bD)(ps:dK):Prop:=∀env,kN W A cl K env st ps
def WZ(W:Wd)(A:dO)(cl:Call)(K:KC)(st:Y bD)(ps:Y dK):Prop:=∀env,uD W A cl K env st ps
mutual
theorem io'{W:Wd}{A:dO}{cl:Call}{K:KC}(ok:D7 W A cl K):∀(st:bD) (ps:dK) (_:tz K st (vz ps)=u),jI W A cl K st ps
 | .fail,ps,h=>λenv=>oe'
 | .A1,ps,h=>@qo' _ (jI W A cl K _) h λp=>by
  intro env I H S s P;exact ol'
 | .cont,ps,h=>@qm' _ (jI W A cl K _) h λp=>by
  intro env I H S s P;exact oc'
 | .DW,ps,h=>@vk _ _ (jI W A cl K _) h λv p h1=>by
  intro env I H S s P;rw[CZ.mp h1];exact on'
 | .ret e,ps,h=>@vk _ _ (jI W A cl K _) h λv p h1=>by
  intro env I H S s P;cases v with
  | none=>exact dA h1
  | some x=>exact om' λI=>(eX ok e K.kn x h1 env I).ev
 | .expr e,ps,h=>@qn' _ _ (jI W A cl K _) h λv p h1=>by
  exact @Oj _ _ (λv=>eK K.kn K e (vw v)=u->jI W A cl K _ (.Expr v p)) h1 (λf as q _ h env=>od' λI=>(eX ok e K.kn _ h env I).ev) (ji' h1)
 | .cU i e,ps,h=>@LJ _ _ (jI W A cl K _) h λt v p h1=>@BH _ _ (λt=>jI W A cl K _ (.Assign [t] v p)) h1 λx px h2=>by
  intro env I H S s P;exact nY' ok (aO (aO h2).1).1 (GV (aO (aO h2).1).2) (aO h2).2
 | .jE is e,ps,h=>@LJ _ _ (jI W A cl K _) h λt v p h1=>@Ol _ _ (λt=>jI W A cl K _ (.Assign [t] v p)) h1 λes k px h2=>by
  intro env I H S s P;have h3:=aO (aO h2).1;have h4:=aO h3.1;have h5:=aO h4.1;obtain⟨r,hr⟩:=rV.mp h3.2;exact nX' ok.handled ok.nd (TR h5.2) (fY h4.2) (sM h5.1) hr λI=>(eX ok e K.kn v (aO h2).2 env I).ev
 | .dU o a e,ps,h=>@LJ _ _ (jI W A cl K _) h λt v p h1=>@Uu _ _ (λt=>jI W A cl K _ (.Assign [t] v p)) h1 λo' x px h2=>by
  intro env I H S s P;have h3:=aO (aO h2).1;exact nT' ok.wo (ok.an▸eq_of_beq (aO h3.1).2) (sM (aO h3.1).1) (λI=>(eX ok o K.kn o' h3.2 env I).ev) λI=>(eX ok e K.kn v (aO h2).2 env I).ev
 | .sA o i e,ps,h=>@LJ _ _ (jI W A cl K _) h λt v p h1=>@LF _ _ (λt=>jI W A cl K _ (.Assign [t] v p)) h1 λo' i' px h2=>by
  intro env I H S s P;have h3:=aO (aO h2).1;exact nU' ok.wo (sM (aO h3.1).1) (λI=>(eX ok o K.kn o' (aO h3.1).2 env I).ev) (λI=>(eX ok i K.kn i' h3.2 env I).ev) λI=>(eX ok e K.kn v (aO h2).2 env I).ev
 | .Jd o lo hi e,ps,h=>@LJ _ _ (jI W A cl K _) h λt v p h1=>@LF _ _ (λt=>jI W A cl K _ (.Assign [t] v p)) h1 λo' s px h2=>@um _ s (λs=>jI W A cl K _ (.Assign [.Subscript o' s px] v p)) h2 λl aN p' h3=>by
  intro env I H S s P;have h4:=aO (aO h3).1;have h5:=aO h4.1;exact nW' (sM (aO h5.1).1) (λI=>(eX ok o K.kn o' (aO h5.1).2 env I).ev) (λI=>MF h5.2 λx hx=>(eX ok lo K.kn x hx env I).ev) (λI=>MF h4.2 λx hx=>(eX ok hi K.kn x hx env I).ev) λI=>(eX ok e K.kn v (aO h3).2 env I).ev
 | .AX i op e,ps,h=>@vj _ _ (jI W A cl K _) h λt o v p h1=>@BH _ _ (λt=>jI W A cl K _ (.AugAssign t o v p)) h1 λx px h2=>by
  intro env I H S s P;have h3:=aO (aO h2).1;rw[show o=op from eq_of_beq (aO h3.1).1];exact nZ' ok.nd (aO h3.1).2 (GV h3.2).1 (GV h3.2).2 λI=>(eX ok e K.kn v (aO h2).2 env I).ev
 | .Je o i op e,ps,h=>@vj _ _ (jI W A cl K _) h λt q v p h1=>@LF _ _ (λt=>jI W A cl K _ (.AugAssign t q v p)) h1 λo' i' px h2=>by
  intro env I H S s P;have h3:=aO (aO h2).1;have h4:=aO h3.1;have h5:=aO h4.1;rw[show q=op from eq_of_beq (aO h5.1).1];exact oa' ok.wo (aO h5.1).2 (sM h5.2) (λI=>(eX ok o K.kn o' h4.2 env I).ev) (λI=>(eX ok i K.kn i' h3.2 env I).ev) λI=>(eX ok e K.kn v (aO h2).2 env I).ev
 | .cP c t f,ps,h=>@zIf _ _ (jI W A cl K _) h λc' t' f' p h1=>by
  intro env I H S s P;exact oj' (λI=>eX ok c K.kn c' (aO (aO h1).1).1 env I) (DM ok t t' (aO (aO h1).1).2 env) (DM ok f f' (aO h1).2 env)
 | .vC c b,ps,h=>@qp' _ _ (jI W A cl K _) h λc' b' p h1=>by
  intro env I H S s P;exact oo' (λI=>eX ok c K.kn c' (aO h1).1 env I) (DM ok b b' (aO h1).2 env)
 | .rE i it b,ps,h=>@Os _ _ (jI W A cl K _) h λt dZ b' p h1=>@BH _ _ (λt=>jI W A cl K _ (.For t dZ b' [] p)) h1 λx px h2=>by
  intro env I H S s P;have h3:=aO (aO h2).1;exact oi' ok.handled ok.nd (sM (aO h3.1).1) (GV (aO h3.1).2).1 (GV (aO h3.1).2).2 (λI=>(eX ok it K.kn dZ h3.2 env I).ev) (DM ok b b' (aO h2).2 env)
 | .HW i it b,ps,h=>@Os _ _ (jI W A cl K _) h λt dZ b' p h1=>@BH _ _ (λt=>jI W A cl K _ (.For t dZ b' [] p)) h1 λx px h2=>by
  intro env I H S s P;have h3:=aO (aO h2).1;exact of' ok.wo.toWOk ok.handled ok.nd (sM (aO h3.1).1) (GV (aO h3.1).2).1 (GV (aO h3.1).2).2 (λI=>(eX ok it K.kn dZ h3.2 env I).ev) (DM ok b b' (aO h2).2 env)
 | .HX is it b,ps,h=>@Os _ _ (jI W A cl K _) h λt dZ b' p h1=>@Ol _ _ (λt=>jI W A cl K _ (.For t dZ b' [] p)) h1 λes k px h2=>by
  intro env I H S s P;have h3:=aO (aO h2).1;exact oh' ok.handled ok.nd (sM (aO h3.1).1) (TR (aO h3.1).2) (λI=>(eX ok it K.kn dZ h3.2 env I).ev) (DM ok b b' (aO h2).2 env)
 | .Jr i x l b,ps,h=>@Os _ _ (jI W A cl K _) h λt dZ b' p h1=>@Ol _ _ (λt=>jI W A cl K _ (.For t dZ b' [] p)) h1 λes k px h2=>@Oj _ _ (λit=>jI W A cl K _ (.For _ it b' [] p)) h2 λf' as pc h3=>@BH _ _ (λf=>jI W A cl K _ (.For _ (.Call f as [] pc) b' [] p)) h3 λz pz h4=>@RN _ _ (λas=>jI W A cl K _ (.For _ (.Call _ as [] pc) b' [] p)) h4 λl' h5=>by
  intro env I H S s P;have h6:=aO (aO h5).1;have h7:=aO h6.1;have h8:=aO h7.1;have h9:=aO h8.1;rw[show z=_ from eq_of_beq (aO h9.1).2];exact og' ok.gl ok.en ok.handled ok.nd (TR (aO h9.1).1) (eq_of_beq h9.2) h8.2 h7.2 (λI=>(eX ok l K.kn l' h6.2 env I).ev) (DM ok b b' (aO h5).2 env)
theorem DM{W:Wd}{A:dO}{cl:Call}{K:KC}(ok:D7 W A cl K):∀(st:Y bD) (ps:Y dK) (_:BG K st ps=u),WZ W A cl K st ps
 | [],ps,h=>by rw[vF.mp h];exact λenv=>nQ'
 | x::xs,ps,h=>@dB' _ _ (WZ W A cl K _) h λp ps h1=>by
  intro env I H S s P;exact nP' (io' ok x p (aO h1).1 env) (DM ok xs ps (aO h1).2 env)
end
end
section
variable{g:O->O}
theorem On:∀(xs:Y V),(sU g xs).length=xs.length:=λxs=>by
 induction xs with
 | nil=>rfl
 | cons x xs ih=>exact aW FD ih
mutual
theorem cB.xT(hm:∀(i:O) p,S[g i]?=Z p->μ1[i]?=Z p):∀(v:V) {y:aJ},cB W S h (qT g v) y->cB W μ1 h v y
 | .none,y,r=>(r.cN:y=_)▸ .none
 | .bool b,y,r=>(r.cN:y=_)▸ .bool b
 | .int i,y,r=>let ⟨t,e⟩:=r.cN;e▸ .int i t
 | .str s,y,r=>let ⟨t,e⟩:=r.cN;e▸ .str s t
 | .aM xs,y,r=>let ⟨a,items,e,hz,ht,hr⟩:=r.cN;e▸ .Ip (On xs▸hz) ht (cX.xT hm xs hr)
 | .ref i,y,r=>let ⟨p,e,hp⟩:=r.cN;e▸ .ref (hm _ _ hp)
 | .g n,y,r=>.g r.cN
 | .gG lo hi,y,r=>let ⟨a,e,hb,hr⟩:=r.cN;e▸ .gG hb hr
theorem cX.xT(hm:∀(i:O) p,S[g i]?=Z p->μ1[i]?=Z p):∀(xs:Y V) {ys:Y aJ},cX W S h (sU g xs) ys->cX W μ1 h xs ys
 | [],ys,r=>(r.cN:ys=[])▸ .nil
 | x::xs,ys,r=>let ⟨y,yF,e,hx,hs⟩:=r.cN;e▸ .cons (cB.xT hm x hx) (cX.xT hm xs hs)
end
mutual
theorem cB.yE(hm:∀(i:O) p,S[i]?=Z p->μ1[g i]?=Z p):∀(v:V) {y:aJ},cB W S h v y->cB W μ1 h (qT g v) y
 | .none,y,r=>(r.cN:y=_)▸ .none
 | .bool b,y,r=>(r.cN:y=_)▸ .bool b
 | .int i,y,r=>let ⟨t,e⟩:=r.cN;e▸ .int i t
 | .str s,y,r=>let ⟨t,e⟩:=r.cN;e▸ .str s t
 | .aM xs,y,r=>let ⟨a,items,e,hz,ht,hr⟩:=r.cN;e▸ .Ip ((On xs).symm▸hz) ht (cX.yE hm xs hr)
 | .ref i,y,r=>let ⟨p,e,hp⟩:=r.cN;e▸ .ref (hm _ _ hp)
 | .g n,y,r=>.g r.cN
 | .gG lo hi,y,r=>let ⟨a,e,hb,hr⟩:=r.cN;e▸ .gG hb hr
theorem cX.yE(hm:∀(i:O) p,S[i]?=Z p->μ1[g i]?=Z p):∀(xs:Y V) {ys:Y aJ},cX W S h xs ys->cX W μ1 h (sU g xs) ys
 | [],ys,r=>(r.cN:ys=[])▸ .nil
 | x::xs,ys,r=>let ⟨y,yF,e,hx,hs⟩:=r.cN;e▸ .cons (cB.yE hm x hx) (cX.yE hm xs hs)
end
theorem YG{a:O}: lW (fs.map λe=>(e.1,qT g e.2)) a=(lW fs a).map (qT g):=by
 induction fs with
 | nil=>rfl
 | cons e r ih=>
  show cW (hU e.1 a) _ (lW (r.map _) a)=Vr _ (cW (hU e.1 a) _ (lW r a));cases hU e.1 a with
  | true=>rfl
  | false=>exact ih
theorem nR.xT(hm:∀(i:O) p,S[g i]?=Z p->μ1[i]?=Z p){o:bY}{p:bC×aG bC}(r:nR W S h (iZ g o) p):nR W μ1 h o p:=by
 cases o with
 | list xs=>
  obtain⟨a,items,e,hz,hl,hr⟩:=r.cN;exact e▸ .list (On xs▸hz) hl (cX.xT hm xs hr)
 | dict es ep=>
  obtain⟨a,bX,n,e,he,hd,hr⟩:=r.cN;refine e▸ .dict he hd ?_;clear r he hd;induction es generalizing bX with
  | nil=>cases hr;exact .nil
  | cons e es ih=>
   cases hr with
   | cons hx hs=>exact .cons (cB.xT hm e.2 hx) (ih _ hs)
 | inst c fs=>
  obtain⟨C,m,a,d,o,e,h1,h2,h3,h4,h5,h6,h7,h8⟩:=r.cN;refine e▸ .inst h1 h2 h3 h4 h5 h6 h7 ⟨λk nm hk=>?_,h8.2⟩;have:=h8.1 k nm hk;rw[YG]at this;cases hf:lW fs k with
  | none=>rw[hf]at this;exact this
  | some v=>
   rw[hf]at this;obtain⟨y,hy,hv⟩:=bZ.ok this;rw[hy];exact cB.xT hm v hv
theorem nR.yE(hm:∀(i:O) p,S[i]?=Z p->μ1[g i]?=Z p){o:bY}{p:bC×aG bC}(r:nR W S h o p):nR W μ1 h (iZ g o) p:=by
 cases o with
 | list xs=>
  obtain⟨a,items,e,hz,hl,hr⟩:=r.cN;exact e▸ .list ((On xs).symm▸hz) hl (cX.yE hm xs hr)
 | dict es ep=>
  obtain⟨a,bX,n,e,he,hd,hr⟩:=r.cN;refine e▸ .dict he hd ?_;clear r he hd;induction hr with
  | nil=>exact .nil
  | cons hx hs ih=>exact .cons (cB.yE hm _ hx) ih
 | inst c fs=>
  obtain⟨C,m,a,d,o,e,h1,h2,h3,h4,h5,h6,h7,h8⟩:=r.cN;refine e▸ .inst h1 h2 h3 h4 h5 h6 h7 ⟨λk nm hk=>?_,h8.2⟩;have:=h8.1 k nm hk;rw[YG];cases hf:lW fs k with
  | none=>rw[hf]at this;exact this
  | some v=>
   rw[hf]at this;obtain⟨y,hy,hv⟩:=bZ.ok this;rw[hy];exact cB.yE hm v hv
end
noncomputable def pV(f:Y O)(S:Mp):Mp:=f.map λj=>(S[j]?).getD (0,aB)
def cm'(f:Y O)(h L':Hp)(i:O):bY:=(match f.findIdx? (hU i) with
 | some k=>(L'[k]?).map (iZ (fN f h.length))
 | none=>cW (JB h.length i) ((L'[f.length+(i-h.length)]?).map (iZ (fN f h.length))) h[i]?).getD (.list [])
def Jg(f:Y O)(h L':Hp):Hp:=(fX (h.length+(L'.length-f.length))).map (cm' f h L')
theorem Ma{f:Y O}{i:O}(e:f.findIdx? (hU i)=Z k):f[k]?=Z i:=by obtain⟨hk,h1,_⟩:=List.findIdx?_eq_some_iff_getElem.mp e;rw[cS hk,AP h1]
theorem et'{f:Y O}{i:O}(e:f.findIdx? (hU i)=aB):i∉f:=λhi=>dA ((List.findIdx?_eq_none_iff.mp e i hi).symm.trans (LY i))
theorem er'{f:Y O}{i:O}(nd:f.Nodup)(e:f[k]?=Z i):f.findIdx? (hU i)=Z k:=by
 cases h:f.findIdx? (hU i) with
 | none=>exact absurd (oF e) (et' h)
 | some j=>exact aW Z ((O9 (iT.mp (Ma h)).1 nd).mp ((Ma h).trans e.symm))
theorem QG{f:Y O}{h:Hp}{i:O}{o:aG bY}(hi:i<h.length+(L'.length-f.length))(e:(match f.findIdx? (hU i) with
 | some k=>(L'[k]?).map (iZ (fN f h.length))
 | none=>cW (JB h.length i) ((L'[f.length+(i-h.length)]?).map (iZ (fN f h.length))) h[i]?)=o) (ho:o.isSome=u):(Jg f h L')[i]?=o:=by
 unfold Jg;rw[fJ,rT hi];show Z (Vp _ _)=_;rw[e];cases o with
 | none=>exact dA ho
 | some x=>rfl
theorem cn'{f:Y O}{L h:Hp}(s:iW f L h)(hl:f.length<=L'.length):Cf f h L' (Jg f h L'):=by
 have lt:∀{k i:O},f[k]?=Z i->i<h.length:=λe=>(s.fK _ _ e).1;refine⟨by unfold Jg;rw[cJ,pI],λk i e=>?_,λi hi hn=>?_,λj=>?_⟩
 ·have hk:=eP (iT.mp e).1 hl
  refine QG (eP (lt e) (bU ..)) (by rw[er' s.nd e]) ?_;rw[cS hk];rfl
 ·refine QG (eP hi (bU ..)) ?_ ?_
  ·cases hf:f.findIdx? (hU i) with
   | some k=>exact absurd (oF (Ma hf)) hn
   | none=>
    dsimp only;rw[rS.mpr λq=>tY _ (eP hi (Vj q))];rfl
  ·rw[cS hi];rfl
 ·by_cases hj:f.length+j<L'.length
  ·refine QG (yO (Vk (nB .. ▸ hj)) _) ?_ ?_
   ·cases hf:f.findIdx? (hU (h.length+j)) with
    | some k=>exact absurd (lt (Ma hf)) (zo (bU ..))
    | none=>
     dsimp only;rw[Nat.ble_eq_true_of_le (bU ..),wQ];rfl
   ·rw[cS hj];rfl
  ·rw[lF (sY hj),lF]
   ·rfl
   ·unfold Jg
    rw[cJ,pI];exact eR (Nat.sub_le_of_le_add (nB .. ▸ sY hj)) _
section
variable{i:O}{l:Mp}
variable{L:Hp}{f:Y O}
theorem Da:(pV f S).length=f.length:=cJ _
theorem Kx(s:iW f L H)(hl:S.length=H.length)(e:(pV f S)[i]?=Z p):fQ (λj=>f[i]?=Z j) (λj=>S[j]?=Z p):=by unfold pV at e;rw[fJ]at e;obtain⟨j,h1,h2⟩:=Ca.mp e;rw[cS (hl▸(s.fK _ _ h1).1)]at h2;exact⟨j,h1,(cS (hl▸(s.fK _ _ h1).1)).trans (aW Z h2)⟩
theorem UG(h1:f[i]?=Z j)(e:S[j]?=Z p):(pV f S)[i]?=Z p:=by unfold pV;rw[fJ,h1];show Z ((S[j]?).getD (0,aB))=_;rw[e];rfl
theorem oh(hl:S.length=H.length)(e:S[fN f H.length i]?=Z p):(pV f S)[i]?=Z p:=by
 unfold fN at e;cases hf:f[i]? with
 | some j=>rw[hf]at e;exact UG hf e
 | none=>
  rw[hf]at e;exact cI ((lF (by rw[hl];exact bU ..)).symm.trans e)
theorem oj(s:iW f L H)(hl:S.length=H.length)(e:(pV f S++l)[i]?=Z p):(S++l)[fN f H.length i]?=Z p:=by
 unfold fN;by_cases hi:i<(pV f S).length
 ·rw[gO hi]at e
  obtain⟨j,h1,h2⟩:=Kx s hl e;rw[h1];rw[gO (iT.mp h2).1];exact h2
 ·rw[oP (sY hi),Da]at e
  rw[lF (l:=f) (by rw[Da]at hi;exact sY hi)];dsimp only;rw[<-hl,oP (bU ..),wQ];exact e
theorem OV{a:bC}(s:iW f L H)(hl:S.length=H.length)(o:gD (pV f S) a):Pw (λ(i:O) (j:O) (p:bC×aG bC)=>f[i]?=Z j) (λi j p=>S[j]?=Z p) (λi j p=>a∈lS p):=by obtain⟨i,p,h1,h2⟩:=o.get;obtain⟨j,h3,h4⟩:=Kx s hl h1;exact⟨i,j,p,h3,h4,h2⟩
theorem St.xT(st:St W S H h)(s:iW f L H):St W (pV f S) L h:=by
 have own:∀{a},gD (pV f S) a->gD S a:=λo=>let ⟨i,j,p,_,h4,h2⟩:=OV s st.len o;.CC h4 h2
 refine⟨Da.trans s.len.symm,st.iH,λi o p ho hp=>?_,λa ha=>st.fresh a (own ha),λi j p q a hp hq ha hb=>?_,λa o ha e=>st.kind a o (own ha) e⟩
 ·obtain⟨j,h1,h2⟩:=Kx s st.len hp
  refine nR.xT (λi p e=>oh st.len e) (st.obj j _ p ?_ h2);rw[(s.fK i j h1).2,ho];rfl
 ·obtain⟨i',h1,h2⟩:=Kx s st.len hp
  obtain⟨j',h3,h4⟩:=Kx s st.len hq;have:=st.apart i' j' p q a h2 h4 ha hb;exact (O9 (iT.mp h1).1 s.nd).mp (h1.trans (aW Z this▸h3.symm))
theorem Mv.yE(st:St W S H h)(s:iW f L H)(m:Mv W X0 (pV f S) h μ' L' h')(hl:μ'=pV f S++l)(b:Cf f H L' H'):Mv W X0 S h (S++l) H' h':=by
 rw[hl]at m;have dE:L'.length=f.length+l.length:=by rw[<-m.st.len,bA,Da]
 have up:∀i p,(pV f S++l)[i]?=Z p->(S++l)[fN f H.length i]?=Z p:=λi p e=>oj s st.len e;have own:∀{a},gD (pV f S) a->gD S a:=λo=>let ⟨i,j,p,_,h4,h2⟩:=OV s st.len o;.CC h4 h2
 have jI':∀{a i p},l[i]?=Z p->a∈lS p->gD (pV f S++l) a:=λe ha=>let ⟨hi,e'⟩:=iT.mp e;⟨_,E7 _ (e'▸AO hi),ha⟩
 have Nm:∀{i p},l[i]?=Z p->(pV f S++l)[f.length+i]?=Z p:=λe=>by
  rw[oP (by rw[Da];exact bU ..),Da,wQ];exact e
 have dX:∀{a},gD (S++l) a->gD S a\/gD (pV f S++l) a:=λo=>by
  obtain⟨p,hp,ha⟩:=o;rcases oQ.mp hp with hp|hp
  exact .inl ⟨p,hp,ha⟩;exact .inr ⟨p,E7 _ hp,ha⟩
 have P7:∀{i p},(S++l)[i]?=Z p->(i<S.length/\S[i]?=Z p)\/fQ (λj=>i=S.length+j) (λj=>l[j]?=Z p):=λ{i p} e=>by
  by_cases hi:i<S.length;rw[gO hi]at e;exact .inl ⟨hi,e⟩
  ·rw[oP (sY hi)]at e
   exact .inr ⟨_,(JA (sY hi)).symm,e⟩
 have du:∀{i j p q a},S[i]?=Z p->l[j]?=Z q->a∈lS p->a∈lS q->False:=λ{i j p q a} e1 e2 ha hb=>by
  obtain⟨o,ho⟩:=st.has (.CC e1 ha);obtain⟨k,i',r,h3,h4,h5⟩:=OV s st.len (m.new a o (jI' e2 hb) ho);have e3:(pV f S++l)[k]?=Z r:=by
   rw[gO (by rw[Da];exact (iT.mp h3).1)];exact UG h3 h4
  have:=m.st.apart k (f.length+j) r q a e3 (Nm e2) h5 hb;exact zo (bU f.length j) (this▸(iT.mp h3).1)
 refine⟨⟨?_,m.st.iH,λi o p ho hp=>?_,λa ha=>(dX ha).elim (st.fresh a) (m.st.fresh a),λi j p q a hp hq ha hb=>?_,λa o ha e=>?_⟩,⟨l,rfl⟩,λa o ha e=>(dX ha).elim id λz=>own (m.new a o z e),m.has,λb o hb hx e=>m.keep b o (λz=>hb (own z)) hx e⟩;rw[b.len,dE,bA,st.len,wQ]
 ·rcases P7 hp with⟨hi,e⟩|⟨j,rfl,e⟩
  ·by_cases hm:i∈f
   ·obtain⟨k,hk⟩:=I4 hm
    rw[b.fK k i hk]at ho;obtain⟨o',h1,h2⟩:=Ca.mp ho;rw[<-h2];refine nR.yE up (m.st.obj k o' p h1 ?_);rw[gO (by rw[Da];exact (iT.mp hk).1)];exact UG hk e
   ·rw[b.keep i (st.len▸hi) hm]at ho
    refine (st.obj i o p ho e).cV (λi p e=>?_) (m.Et (st.xT s) λ_ _ q=>q.elim) λa ha ob e1=>m.keep a ob (λz=>?_) (λq=>q) e1;rw[gO (iT.mp e).1];exact e
    ·obtain⟨k,i',r,h3,h4,h5⟩:=OV s st.len z
     exact hm (st.apart i i' p r a e h4 ha h5▸oF h3)
  ·rw[st.len,b.new]at ho
   obtain⟨o',h1,h2⟩:=Ca.mp ho;rw[<-h2];exact nR.yE up (m.st.obj _ o' p h1 (Nm e))
 ·rcases P7 hp with⟨_,e⟩|⟨i',rfl,e⟩<;>rcases P7 hq with⟨_,e'⟩|⟨j',rfl,e'⟩
  exact st.apart i j p q a e e' ha hb;exact (du e e' ha hb).elim;exact (du e' e hb ha).elim;exact aW _ (PF (m.st.apart _ _ p q a (Nm e) (Nm e') ha hb))
 ·by_cases z:gD (pV f S++l) a
  ·exact m.st.kind a o z e
  ·have ha:=(dX ha).resolve_right z
   obtain⟨o',ho⟩:=st.has ha;rw[<-aT ((m.keep a o' (λy=>z y.append) (λq=>q) ho).symm.trans e)];exact st.kind a o' ha ho
end
theorem eD'(h:yS W A cl):yS W A (Js W.G cl):=λ{n np nv b args H S s vals f P} hk hg st ha w=>by
 have w:cW (W.G.fr n) (YX cl n args H P) (cl n args H P):=w;cases hb:W.G.fr n with
 | false=>rw[hb]at w;exact h hk hg st ha w
 | true=>
  rw[hb]at w;obtain⟨ps,L,as,s1,e,w1⟩:=w;rw[<-e]at ha;intro Q E q;refine h hk hg (st.xT s1) (cX.xT (λi p e=>oh st.len e) as ha) w1 Q E λv L' p μ' h' tk y m hy=>?_;obtain⟨l,hl⟩:=m.ext;have b:=cn' (L':=L') s1 (by rw[<-m.st.len,hl,bA,Da];exact bU ..);exact q _ _ (p _ b) _ h' tk y (m.yE st s1 hl b) (cB.yE (λi p e=>oj s1 st.len (hl▸e)) v hy)
theorem cy{α:Type}:∀{xs:Y aU} {vs:Y α},xs.Nodup->vs.length=xs.length->∀{x:aU},x∈xs->((xs.zip vs).lookup x).isNone=aE
 | [],_,_,_,x,h=>by cases h
 | y::ys,[],_,hl,x,h=>by simp at hl
 | y::ys,v::vs,hn,hl,x,h=>by
  rw[Vg,I5];by_cases SJ:x=y;subst SJ;simp
  ·have:(x==y)=aE:=by simpa using SJ
   rw[this];simp at hl;have hx:x∈ys:=by
    rcases oE.mp h with e|e
    exact absurd e SJ;exact e
   exact cy (Dv.mp hn).2 hl hx
theorem YI{α:Type}:∀{xs:Y aU} {vs:Y α},xs.Nodup->vs.length=xs.length->∀(pre:Y (aU×α)),(∀x∈xs,pre.lookup x=aB)->xs.filterMap (λn=>((pre++xs.zip vs).lookup n).map (n,·))=xs.zip vs
 | [],_,_,_,pre,_=>rfl
 | y::ys,[],_,hl,pre,_=>by simp at hl
 | y::ys,v::vs,hn,hl,pre,hp=>by
  have F4:=Dv.mp hn;simp at hl;have hy:(pre++(y,v)::ys.zip vs).lookup y=Z v:=by
   rw[yi,hp y vG];simp [I5]
  rw[Vg,LV,hy];simp only[FH];congr 1;have:=YI (vs:=vs) F4.2 hl (pre++[(y,v)]) (λx hx=>by
   rw[yi,hp x (tX _ hx)];have:(x==y)=aE:=by
    simp only[jB];intro q;subst q;exact F4.1 hx
   simp [I5,this])
  rw[fB,List.singleton_append]at this;exact this
theorem cu'{fd:I0}{ps:Y Arg}(hp:fd.params=⟨[],ps,aB,[],[],aB,[]⟩)(hd:fd.defaults= .none)(hn:(ps.map (·.arg)).Nodup)(hl:vals.length=ps.length):
  bindArgs fd ⟨vals,[]⟩=pure ((ps.map (·.arg)).zip vals):=by
 have Ao:vals.length=(ps.map (·.arg)).length:=by simpa using hl
 have fH':((ps.map (·.arg)).filter λn=>(((ps.map (·.arg)).zip vals).lookup n).isNone)=[]:=by
  rw[List.filter_eq_nil_iff];intro x hx;rw[cy hn Ao hx];simp
 have hf:=YI hn Ao [] (λx _=>rfl);rw[I7]at hf;have nK:decide (vals.length>(ps.map (·.arg)).length)=aE:=by simpa using dH hl
 have hs:seqItems? Value.none=pure aB:=rfl;clear hl hn;unfold bindArgs;rw[hp,hd];dsimp +zetaHave only;simp only[ym,I7,pH,↓hs,↓List.forIn_nil,↓pure_bind,nK,vy,VA,↓reduceIte,Vq,List.length_nil,Nat.zero_sub,Nat.sub_zero,List.drop_nil,CV,fH',List.isEmpty_nil,Bool.not_true,List.zip_nil_right,hf]
inductive JT(W:Wd)(gl:aU->aG V)(n np nv:O)(b:Y bD):Prop where
 | mk(a:bC)(o:gQ)(fd:I0)(ps:Y Arg)(body:Y dK)(vn:Y aU)(_:W.lX n=Z (.ref a))(_:W.h0.get? a=Z o)(_:o.data= .func fd)(_:fd.params=⟨[],ps,aB,[],[],aB,[]⟩)(_:fd.defaults= .none)(_:fd.closure=[])(_:fd.body= .stmts body)(_:fd.globals=3)(_:fd.builtins=0)(_:fd.scope.kind= .function)(_:fd.scope.isCoroutine=aE)(_:fd.scope.isGenerator=aE)(_:W.h0.CodeRec fd.code fd.qualname)(_:np<=nv)(_:vn.length=nv)(_:ps.map (·.arg)=vn.take np)(_:vn.Nodup)(_:∀x∈vn.take np,fd.scope.names.lookup x=Z .local\/fd.scope.names.lookup x=Z .cell)(_:BG ⟨fd.scope.names,vn,gl,W.an⟩ b body=u)
theorem hY'{y:aU}{v:α}{r:Y (aU×α)}: ((x,v)::r).lookup y=if y=x then Z v else r.lookup y:=by rw[I5];by_cases h:y=x;rw[aZ h,kB.mpr h];rw[aR h,jB.mpr h]
theorem XJ{names:Y (aU×jM)}:∀{n:O} {acc:Y (aU×bC)},(acc.lookup x).isSome=u\/(x,yz)∈names->((WB n names acc).lookup x).isSome=u:=by
 induction names with
 | nil=>exact λh=>h.elim (λh=>h) λh=>nomatch h
 | cons y r ih=>
  obtain⟨y,k⟩:=y;intro n acc h;unfold WB;split
  ·refine ih ?_
   rw[hY'];by_cases e:x=y;rw[aZ e];exact .inl rfl;rw[aR e];exact h.imp_right λh=>(oE.mp h).resolve_left λq=>e (aW PT q)
  ·rename_i hk
   exact ih (h.imp_right λh=>(oE.mp h).resolve_left λq=>hk (kB.mpr (aW d7 q).symm))
theorem cw':∀{m:aU->aG aJ},x∉bs.map (·.1)->Lg kindOf bs m x=m x:=by
 induction bs with
 | nil=>exact λ_=>rfl
 | cons p r ih=>
  intro m h;unfold Lg;rw[ih λq=>h (tX _ q)];split;exact aR λ(q:x=p.1)=>h (q▸vG ..);rfl
theorem cv':∀{m:aU->aG aJ},x∉bs.map (·.1)->Lf kindOf bs m x=m x:=by
 induction bs with
 | nil=>exact λ_=>rfl
 | cons p r ih=>
  intro m h;unfold Lf;rw[ih λq=>h (tX _ q)];split;rfl;exact aR λ(q:x=p.1)=>h (q▸vG ..)
theorem W4{v:aJ}:∀{m:aU->aG aJ} {i:O},(bs.map (·.1)).Nodup->bs[i]?=Z (x,v)->(kindOf x=Z .local->Lg kindOf bs m x=Z v)/\(kindOf x=Z .cell->Lf kindOf bs m x=Z v):=by
 induction bs with
 | nil=>exact λ_ h=>cI h
 | cons p r ih=>
  intro m i hn h;obtain⟨h1,h2⟩:=Dv.mp hn;cases i with
  | zero=>
   rw[show p=(x,v) from aT h]at h1 ⊢;unfold Lg Lf;rw[cw' h1,cv' h1];exact⟨λhk=>by rw[aZ hk];exact aZ rfl,λhk=>by rw[aR (hk▸by decide)];exact aZ rfl⟩
  | succ i=>
   unfold Lg Lf;exact⟨(ih h2 h).1,(ih h2 h).2⟩
def Ck(A:dO)(d:O):Prop:=A.handled=aB/\A.depth+3*d<WO/\A.units+12*d+40<BQ
theorem Ck.deeper(r:Ck A (d+1))(env:fM):Ck (A.deeper env) d/\(A.deeper env).depth+1+3*d<WO:=by obtain⟨h1,h2,h3⟩:=r;refine⟨⟨h1,?_,?_⟩,?_⟩;exact cM (aL (dH (hS ..)) (eR (by decide:1<=3) (A.depth+3*d))) h2;exact cM (dP (aL (dH (hS ..)) (eR (by decide:3<=12) (A.units+12*d))) 40) h3;exact cM (aL (dH (hS A.depth 2 _)) (eR (by decide:2<=3) (A.depth+3*d))) h2
theorem Ck.under(r:Ck A d)(hd:A.depth+1+3*d<WO)(hu:A.units+12*d+44<BQ)(C:bC)(vals:Y aJ):Ck (A.under (.builtin "type.__call__" ⟨.ref C::vals,[]⟩)) d:=by obtain⟨h1,h2,h3⟩:=r;refine⟨h1,?_,?_⟩;exact hd;exact cM (aL (dP (dH (hS A.units 1 _)) 40) (eR (by decide:41<=44) _)) hu
theorem cN'(h:yS W A cl):yS W A λn args H Q=>Bx (cl n args H Q):=λ{n np nv b args H S s vals f P} hk hg st ha w=>h hk hg st ha (let ⟨w⟩:=w;w)
theorem di'{gl:aU->aG V}(wo:qC W)(ao:FO W)(RZ:HE W gl)(en:Lr W gl)(fF':W.h0.NoLimit)(Qv:∀n np nv b,W.G.kind n= .fn np nv b->JT W gl n np nv b)(d:O):
  ∀A,Ck A d->yS W A (Iu W.G d):=by
 induction d with
 | zero=>exact λA _ {n np nv b args H S s vals f P} _ _ _ _ w=>w.elim
 | succ d ih=>
 intro A hr n np nv b args H S s vals f P hk hg st Yt w;obtain⟨a,o,fd,ps,body,vn,g1,g2,g3,g4,g5,g6,g7,g8,g9,Me,Q0,g12,g13,g14,g15,Mf,Ye,g18,g19⟩:=Qv n np nv b hk;rw[aT (hg.symm.trans g1)];obtain⟨q0,Zo,w⟩:=w.ok;obtain⟨dE,w⟩:=KM w;rw[hk]at Zo;rw[<-aT Zo]at w dE;replace dE:args.length=np:=AP dE;have DA:=Yt.length;have ZY:(vn.take np).length=np:=PB (g15▸g14);have C9:ps.length=np:=by rw[<-ZY,<-Mf,cJ]
 have Za:(vn.take np).Nodup:=Ye.sublist (List.take_sublist ..);have fi':=cu' (vals:=vals) g4 g5 (Mf▸Za) (by rw[C9,<-DA,dE]);intro Q E q;obtain⟨rI,kP,Zp⟩:=hr;refine wpAny_call (codeAny_call_cells (by lia) (st.iH a o g2) g3 (fF'.keeps st.iH) (g13.keeps st.iH) g7 fi' g6 ?_ ?_ Q0 g12 Me)
 ·intro x hx
  rw[Mf]at hx;exact (g18 x.1 (List.of_mem_zip hx).1).imp_right λh=>⟨h,XJ (.inr (FL h))⟩
 ·intro s1 lY
  rw[Mf]at lY;have ZW:(((vn.take np).zip vals).map (·.1)).Nodup:=by
   rw[List.map_fst_zip (by rw[ZY,<-DA,dE];exact cE _)];exact Za
  generalize J4:callEnvC fd s.heap.objs.size a=env at lY ⊢;have R7:env.scope=fd.scope:=J4▸rfl;have ZO:env.locals=s.heap.objs.size:=J4▸rfl;have fk':env.cells=WB (s.heap.objs.size+1) fd.scope.names []:=J4▸rfl;have Hd:env.kindOf=(λz=>fd.scope.names.lookup z):=funext λx=>by unfold Iy;rw[R7]
  obtain⟨h1,tk1,rfl⟩:=lY.toInCall.same;have m0:=Mv.of_keep st (h':=h1) lY.toInCall.keep;have RE:∀c,FX env c->s.heap.get? c=aB:=λc hc=>AN (by
   rcases hc with hc|⟨x,hx⟩
   ·rw[hc,ZO];exact cE _
   ·exact lO (ZO▸lY.above x c (FL hx)))
  have Wv:∀(i:O) x v,vn[i]?=Z x->(args.map Z++kA (nv-np) aB)[i]?=Z (Z v)->fQ (λy=>((vn.take np).zip vals)[i]?=Z (x,y)) (λy=>cB W S h1 v y):=λi x v hx hv=>by
   by_cases hi:i<np
   ·rw[gO (by rw[cJ,dE];exact hi),fJ]at hv
    obtain⟨v',GB,GC⟩:=Ca.mp hv;obtain⟨y,hy,SG⟩:=Yt.get GB;exact⟨y,List.getElem?_zip_eq_some.mpr ⟨by rw[VY hi];exact hx,hy⟩,aT GC▸SG.mv st m0⟩
   ·rw[oP (by rw[cJ,dE];exact sY hi),VW]at hv
    split at hv;exact cI (aT hv);exact cI hv
  have fr:jD W S h1 ⟨fd.scope.names,vn,gl,W.an⟩ env (args.map Z++kA (nv-np) aB):=by
   refine⟨⟨R7▸Me,R7▸rfl,J4▸g8,J4▸g9,⟨_,lY.toInCall.ns,λi x v h2 h3 h4=>?_⟩,λx hx=>?_,st.sQ (RE _ (.inl rfl)),λx c hc=>?_⟩,λx y c hx hy=>name_of_addr lY.apart (FL hx) (FL hy),λx c hc=>⟨_,lY.cell x c hc⟩⟩
   ·obtain⟨y,h5,h6⟩:=Wv i x v h2 h3
    exact⟨y,by rw[Hd];exact (W4 ZW h5).1 h4,h6⟩
   ·obtain⟨c,hc⟩:=rV.mp (fk'▸XJ (.inr (FL hx)):(env.cells.lookup x).isSome=u)
    refine⟨c,_,hc,lY.cell x c hc,λi v h2 h3=>?_⟩;obtain⟨y,h5,h6⟩:=Wv i x v h2 h3;exact⟨y,by rw[Hd];exact (W4 ZW h5).2 hx,h6⟩
   ·have h2:=st.sQ (RE c (.inr ⟨x,hc⟩))
    obtain⟨o,ho,_⟩:=lY.cell x c hc;have h3:=lY.above x c (FL hc);exact⟨h2.1,h2.2,λz=>tY _ (z▸h3),o,ho⟩
  have room:=Ck.deeper (A:=A) (d:=d) ⟨rI,kP,Zp⟩ env;have MI:∀A',K6 (A.deeper env) A'->yS W A' (Js W.G λn args h Q=>Bx (Iu W.G d n args h Q)):=λA' Jy=>eD' (cN' (by
   rcases Jy with Jy|⟨C,vs,Jy⟩
   ·exact Jy▸ih _ room.1
   ·exact Jy▸ih _ (room.1.under room.2 (by show A.units+3+12*d+44<_;rw[hS A.units];exact cM (bU _ 5) Zp) C vs)))
  have ev:D7 W (A.deeper env) (Js W.G λn args h Q=>Bx (Iu W.G d n args h Q)) ⟨fd.scope.names,vn,gl,W.an⟩:=⟨wo,ao,RZ,en,rfl,Ye,rI,by show A.units+3+21<_;lia,MI⟩;refine DM ev b body g19 env (s:= {s with heap:=h1,toks:=tk1}) fr m0.st w _ _ λfl ρ' H' p μ' h' Gp fw m f' hf=>?_;have tI:Mv W X0 S s.heap μ' H' h':=((m0.fx (eD:=FX env)).trans m).LH λc o' e' hc=>cI ((RE c hc).symm.trans e');cases fl with
  | next=>
   rw[show fw= .next from hf];exact q _ _ p μ' h' Gp .none tI .none
  | ret v=>
   obtain⟨y,rfl,hv⟩:=hf;exact q _ _ p μ' h' Gp _ tI hv
  | cont=>
   rw[show fw= .cont from hf];exact q _ _ p μ' h' Gp .none tI .none
structure Tb where
 ga:Y (aG aJ)
 gl:Y (aU×V)
 an:Y aU
 vn:Y (O×Y aU)
noncomputable def Tb.g(T:Tb)(n:O):aG aJ:=(T.ga[n]?).join
variable{g:O->O}
noncomputable def Ir{β:Type}(f:lA->aG β):aJ->aG β
 | .type t=>f t
 | _=>aB
noncomputable def OJ{β:Type}(f:bC->aG β):aJ->aG β
 | .ref t=>f t
 | _=>aB
noncomputable def MB{β:Type}(f:lA->aG β):aJ->aG β
 | .builtin t=>f t
 | _=>aB
theorem LC{f:lA->aG β}{v:aJ}{y:β}(h:Ir f v=Z y):fQ (λt=>v= .type t) (λt=>f t=Z y):=by cases v<;>first|exact cI h|exact⟨_,rfl,h⟩
theorem T6{f:bC->aG β}{v:aJ}{y:β}(h:OJ f v=Z y):fQ (λt=>v= .ref t) (λt=>f t=Z y):=by cases v<;>first|exact cI h|exact⟨_,rfl,h⟩
theorem QI{f:lA->aG β}{v:aJ}{y:β}(h:MB f v=Z y):fQ (λt=>v= .builtin t) (λt=>f t=Z y):=by cases v<;>first|exact cI h|exact⟨_,rfl,h⟩
def Gr(x y:aJ):aC:=(OJ (λa=>OJ (λb=>eU (hU a b) (Z ())) y) x).isSome||(Ir (λa=>Ir (λb=>eU (a==b) (Z ())) y) x).isSome||(MB (λa=>MB (λb=>eU (a==b) (Z ())) y) x).isSome
theorem It{x:aJ}(h:Gr x y=u):x=y:=by
 rcases (Dm _ _).mp h with h|h
 ·rcases (Dm _ _).mp h with h|h
  ·obtain⟨aN,h⟩:=rV.mp h
   obtain⟨a,e1,h1⟩:=T6 h;obtain⟨b,e2,h2⟩:=T6 h1;exact e1.trans ((aW Vv (AP (iY h2).1)).trans e2.symm)
  ·obtain⟨aN,h⟩:=rV.mp h
   obtain⟨a,e1,h1⟩:=LC h;obtain⟨b,e2,h2⟩:=LC h1;exact e1.trans ((aW Value.type (eq_of_beq (iY h2).1)).trans e2.symm)
 ·obtain⟨aN,h⟩:=rV.mp h
  obtain⟨a,e1,h1⟩:=QI h;obtain⟨b,e2,h2⟩:=QI h1;exact e1.trans ((aW Value.builtin (eq_of_beq (iY h2).1)).trans e2.symm)
noncomputable def SX:aJ->aC
 | .none=>u
 | _=>aE
theorem bo{x:aJ}(h:SX x=u):x= .none:=by cases x<;>first|exact dA h|rfl
noncomputable def XM{β:Type}(f:ClassData->aG β):E2->aG β
 | .cls c=>f c
 | _=>aB
noncomputable def qi{β:Type}(f:gN aJ->aG β):E2->aG β
 | .seq xs _=>f xs
 | _=>aB
noncomputable def Xk{β:Type}(f:gN E3->aG β):E2->aG β
 | .dict xs _=>f xs
 | _=>aB
noncomputable def Cs{α β:Type}(f:α->Y α->aG β):Y α->aG β
 | x::r=>f x r
 | []=>aB
noncomputable def TO{α β:Type}(y:aG β):Y α->aG β
 | []=>y
 | _::_=>aB
theorem dk'{f:ClassData->aG β}{v:E2}{y:β}(h:XM f v=Z y):fQ (λt=>v= .cls t) (λt=>f t=Z y):=by cases v<;>first|exact cI h|exact⟨_,rfl,h⟩
theorem nO'{f:gN aJ->aG β}{v:E2}{y:β}(h:qi f v=Z y):AV (λxs n=>v= .seq xs n) (λxs n=>f xs=Z y):=by cases v<;>first|exact cI h|exact⟨_,_,rfl,h⟩
theorem dG'{f:gN E3->aG β}{v:E2}{y:β}(h:Xk f v=Z y):AV (λxs n=>v= .dict xs n) (λxs n=>f xs=Z y):=by cases v<;>first|exact cI h|exact⟨_,_,rfl,h⟩
theorem EL{f:α->Y α->aG β}{l:Y α}{y:β}(h:Cs f l=Z y):AV (λx r=>l=x::r) (λx r=>f x r=Z y):=by cases l<;>first|exact cI h|exact⟨_,_,rfl,h⟩
theorem gi{z:aG β}{l:Y α}{y:β}(h:TO z l=Z y):l=[]/\z=Z y:=by cases l<;>first|exact cI h|exact⟨rfl,h⟩
def bare(t:lA)(o:gQ)(x:aG β):aG β:=Ir (λt'=>eU (t'==t&&(o.dict.isNone&&o.slots.isEmpty)) x) o.cls
theorem W0{t:lA}{o:gQ}{x:aG β}{y:β}(h:bare t o x=Z y):x=Z y/\o= {cls:=.type t,dict:=aB,data:=o.data,slots:= #[]}:=by obtain⟨cl,dd,data,sl⟩:=o;obtain⟨t',e1,h⟩:=LC h;obtain⟨hc,h⟩:=iY h;rw[show cl=_ from e1,eq_of_beq (aO hc).1,show dd=aB from CZ.mp (aO (aO hc).2).1,show sl= #[] from Array.isEmpty_iff.mp (aO (aO hc).2).2];exact⟨h,rfl⟩
def ud(o:gQ):aG (gN aJ):=bare "tuple" o (qi Z o.data)
theorem pH'{o:gQ}(h:ud o=Z items):jO λn=>o= {cls:=.type "tuple",dict:=aB,data:=.seq items n,slots:= #[]}:=by obtain⟨h1,h2⟩:=W0 h;obtain⟨xs,n,h3,h4⟩:=nO' h1;exact⟨n,h2.trans (by rw[h3,aT h4])⟩
noncomputable def XB(a:aC):aJ->aC
 | .bool b=>a==b
 | _=>aE
noncomputable def SR(a:J):aJ->aC
 | .int b _=>decide (b=a)
 | _=>aE
noncomputable def re(a:aU):aJ->aC
 | .str b _=>b==a
 | _=>aE
noncomputable def Ge(f:bC->aC):aJ->aC
 | .ref a=>f a
 | _=>aE
theorem cJ'{a:aC}{v:aJ}(h:XB a v=u):v= .bool a:=by cases v<;>first|exact dA h|exact aW Vu (eq_of_beq h).symm
theorem bf{v:aJ}(h:SR a v=u):jO λt=>v= .int a t:=by cases v<;>first|exact dA h|exact⟨_,aW (JI · _) (fY h)⟩
theorem oI'{a:aU}{v:aJ}(h:re a v=u):jO λt=>v= .str a t:=by cases v<;>first|exact dA h|exact⟨_,aW (Value.str · _) (eq_of_beq h)⟩
theorem IU{f:bC->aC}{v:aJ}(h:Ge f v=u):fQ (λa=>v= .ref a) (λa=>f a=u):=by cases v<;>first|exact dA h|exact⟨_,rfl,h⟩
noncomputable def mD{α:Type}(f:α->aC):aG α->aC
 | some x=>f x
 | none=>aE
theorem mS{f:α->aC}{o:aG α}(h:mD f o=u):fQ (λx=>o=Z x) (λx=>f x=u):=by cases o<;>first|exact dA h|exact⟨_,rfl,h⟩
noncomputable def QQ{α:Type}(f:α->Y α->aC):Y α->aC
 | x::xs=>f x xs
 | []=>aE
theorem XZ{f:α->Y α->aC}{l:Y α}(h:QQ f l=u):AV (λx xs=>l=x::xs) (λx xs=>f x xs=u):=by cases l<;>first|exact dA h|exact⟨_,_,rfl,h⟩
section
variable(T:Tb)(h:bS)
mutual
def Oo:V->aJ->aC
 | .none,y=>SX y
 | .bool a,y=>XB a y
 | .int a,y=>SR a y
 | .str a,y=>re (bR a) y
 | .aM xs,y=>Ge (λa=>mD (λo=>mD (λitems=>decide (xs.length<=aF)&&U2 xs items.toList) (ud o)) (h.get? a)) y
 | .g n,y=>mD (λv=>Gr v y) (T.g n)
 | .ref _,_=>aE
 | .gG _ _,_=>aE
def U2:Y V->Y aJ->aC
 | [],ys=>ys.isEmpty
 | x::xs,ys=>QQ (λy ys=>Oo x y&&U2 xs ys) ys
end
noncomputable def iS'(x:aU):aG aJ:=match h.nsMap 3 x with
 | some v=>Z v
 | none=>h.nsMap 0 x
def Yi(p:aU×V):aC:=mD (Oo T h p.2) (iS' h p.1)
def jr(a:Arguments):aG (Y Arg):=eU (a.posonlyargs.isEmpty&&a.vararg.isNone&&a.kwonlyargs.isEmpty&&a.kw_defaults.isEmpty&&a.kwarg.isNone&&a.defaults.isEmpty) (Z a.args)
noncomputable def qw:FuncBody->aG (Y dK)
 | .stmts b=>Z b
 | _=>aB
noncomputable def Yd:E2->aG I0
 | .func fd=>Z fd
 | _=>aB
def fdB(vn:Y aU)(np nv:O)(b:Y bD)(fd:I0):aC:=mD (λps=>mD (λbody=>
  SX fd.defaults&&fd.closure.isEmpty&&hU fd.globals 3&&hU fd.builtins 0&&fd.scope.kind== .function && !fd.scope.isCoroutine && !fd.scope.isGenerator&&h.codeRecOk fd.code fd.qualname&&decide (np<=nv)&&hU vn.length nv &&
   (ps.map (·.arg)==vn.take np)&&decide vn.Nodup&&(vn.take np).all (λx=>fd.scope.names.lookup x==Z .local||fd.scope.names.lookup x==Z .cell)&&BG ⟨fd.scope.names,vn,λx=>T.gl.lookup x,λa=>T.an[a]?⟩ b body) (qw fd.body)) (jr fd.params)
def YV(n np nv:O)(b:Y bD):aC:=mD (Ge λa=>mD (λo=>mD (fdB T h ((T.vn.lookup n).getD []) np nv b) (Yd o.data)) (h.get? a)) (T.g n)
def QX:Y (J×V)->Y E3->aC
 | [],es=>es.isEmpty
 | p::r,es=>QQ (λe es=>SR p.1 e.key&&decide (e.hash=hashInt p.1)&&Oo T h p.2 e.val&&QX r es) es
def dictOf(o:gQ):aG (gN E3):=bare "dict" o (Xk Z o.data)
def Xl(n:O)(es:Y (J×V)):aC:=mD (Ge λd=> !(d==D1)&&mD (λo=>mD (λxG=>decide (es.map (·.1)).Nodup&&QX T h es xG.toList) (dictOf o)) (h.get? d)) (T.g n)
noncomputable def Nq(x:aU):aG (aG aJ):=fastLookup "object" x
def gG'(o:gQ):aC:=Gr o.cls (.type "function")
def SW(a:bC):aC:=mD gG' (h.get? a)
def XR(o:gQ):aG (D2×bC×bC):=Ir (λt=>XM (λc=>Cs (λv1 r=>OJ (λC'=>Cs (λv2 r=>Ir (λt'=>TO (Cs (λk0 r=>Cs (λk1 r=>Cs (λk2 r=>Cs (λk3 r=>Cs (λx r=>Cs (λk5 r=>TO (bE x (MB λnw=>eU ((t=="type"&&t'=="object"&&nw=="object.__new__")&&(c.hasDict && !c.abstract && !c.hasDel)) (Z (⟨c.name,c.qualname,c.bases,c.slotNames,c.subclasses,c.collection,o.dict,k0,k1,k2,k3,k5⟩,C',c.ns)))) r) r) r) r) r) r) o.slots.toList) r) v2) r) v1) c.mro) o.data) o.cls
def XQ(dat:Y (O×O))(mt:Y (O×O×O))(c gR:O):aC:=mD (Ge λC=>mD (λo=>mD (λq:D2×bC×bC=>
   hU q.2.1 C&&h.isNs q.2.2&&(h.nsMap q.2.2 "__getattribute__").isNone&&(h.nsMap q.2.2 "__getattr__").isNone&&(h.nsMap q.2.2 "__setattr__").isNone &&
   mD (Ge λfI=>mD (λv=>Gr v (.ref fI)) (h.nsMap q.2.2 "__init__")&&SW h fI) (T.g gR) &&
   dat.all (λe=> !(hU e.1 c)||mD (λx=>(h.nsMap q.2.2 x).isNone&&mD (λr=>r.isNone) (Nq x)) (T.an[e.2]?)) &&
   mt.all (λe=> !(hU e.1 c)||mD (λx=>mD (Ge λfa=>mD (λv=>Gr v (.ref fa)) (h.nsMap q.2.2 x)&&SW h fa&&(Nq x).isSome) (T.g e.2.2)) (T.an[e.2.1]?))) (XR o)) (h.get? C)) (T.g c)
noncomputable def NQ:Kind->aC
 | .fn _ _ _=>u
 | _=>aE
def NT(kind:O->Kind)(dat:Y (O×O))(mt:Y (O×O×O))(n:O):Kind->aC
 | .fn np nv b=>YV T h n np nv b
 | .cls gR=>XQ T h dat mt n gR&&NQ (kind gR)
 | .rD es=>Xl T h n es
 | .sH _=>u
 | .kX=>u
 | .blt b=>mD (λv=>Gr v (MD b)) (T.g n)
end
section
variable{o:gQ}
variable{T:Tb}(kG:∀n v,T.g n=Z v->W.lX n=Z v)(hx:∀b o,h.get? b=Z o->W.h0.get? b=Z o)
include kG hx
mutual
theorem U1:∀{v:V} {y:aJ},Oo T h v y=u->cB W [] W.h0 v y
 | .none,y,e=>by rw[bo e];exact .none
 | .bool a,y,e=>by rw[cJ' e];exact .bool a
 | .int a,y,e=>by obtain⟨t,rfl⟩:=bf e;exact .int a t
 | .str a,y,e=>by obtain⟨t,rfl⟩:=oI' e;exact .str a t
 | .aM xs,y,e=>by
  obtain⟨a,rfl,e1⟩:=IU e;obtain⟨o,ho,e2⟩:=mS e1;obtain⟨items,hi,e3⟩:=mS e2;obtain⟨n,rfl⟩:=pH' hi;exact .Ip (fY (aO e3).1) ⟨n,hx _ _ ho⟩ (uw (aO e3).2)
 | .g n,y,e=>by
  obtain⟨v,hv,e1⟩:=mS e;rw[It e1]at hv;exact .g (kG n y hv)
 | .ref _,y,e=>dA e
 | .gG _ _,y,e=>dA e
theorem uw:∀{xs:Y V} {ys:Y aJ},U2 T h xs ys=u->cX W [] W.h0 xs ys
 | [],ys,e=>vF.mp e▸ .nil
 | x::xs,ys,e=>by
  obtain⟨y,ys,rfl,e1⟩:=XZ e;exact .cons (U1 (aO e1).1) (uw (aO e1).2)
end
theorem eU'(h3:h.isNs 3=u)(h0:h.isNs 0=u)(hg:T.gl.all (Yi T h)=u):HE W (λx=>T.gl.lookup x):=λx v e=>by
 obtain⟨y,hy,e1⟩:=mS (yL.mp hg _ (FL e));refine⟨y,U1 kG hx e1,?_⟩;have n3:W.h0.Ns 3 (h.nsMap 3):=Ns.lL (Oz h3) λo e=>hx _ _ e;have n0:W.h0.Ns 0 (h.nsMap 0):=Ns.lL (Oz h0) λo e=>hx _ _ e;have hy:(match h.nsMap 3 x with|some v=>Z v|none=>h.nsMap 0 x)=Z y:=hy;cases hz:h.nsMap 3 x with
 | some z=>rw[hz]at hy;exact .inl ⟨_,n3,hz.trans hy⟩
 | none=>rw[hz]at hy;exact .inr ⟨_,_,n3,hz,n0,hy⟩
omit kG hx in
theorem jY'{a:Arguments}{ps:Y Arg}(e:jr a=Z ps):a=⟨[],ps,aB,[],[],aB,[]⟩:=by obtain⟨a1,a2,a3,a4,a5,a6,a7⟩:=a;obtain⟨h,e⟩:=iY e;have h2:=aO h;have h3:=aO h2.1;have h4:=aO h3.1;have h5:=aO h4.1;have h6:=aO h5.1;rw[show a1=[] from vF.mp h6.1,show a2=ps from aT e,show a3=aB from CZ.mp h6.2,show a4=[] from vF.mp h5.2,show a5=[] from vF.mp h4.2,show a6=aB from CZ.mp h3.2,show a7=[] from vF.mp h2.2]
omit kG hx in
theorem oG'{a:FuncBody}{b:Y dK}(e:qw a=Z b):a= .stmts b:=by cases a<;>first|exact cI e|exact aW FuncBody.stmts (aT e)
omit kG hx in
theorem eH'{a:E2}{b:I0}(e:Yd a=Z b):a= .func b:=by cases a<;>first|exact cI e|exact aW Data.func (aT e)
theorem eA'{n np nv:O}{b:Y bD}(C4:W.an=λa=>T.an[a]?)(e:YV T h n np nv b=u):JT W (λx=>T.gl.lookup x) n np nv b:=by obtain⟨v,hv,e1⟩:=mS e;obtain⟨a,rfl,e2⟩:=IU e1;obtain⟨o,ho,e3⟩:=mS e2;obtain⟨fd,RV,e4⟩:=mS e3;obtain⟨ps,F8,e5⟩:=mS e4;obtain⟨body,hb,e6⟩:=mS e5;have e7:=aO e6;have e8:=aO e7.1;have e9:=aO e8.1;have HT:=aO e9.1;have HU:=aO HT.1;have Xr:=aO HU.1;have Xs:=aO Xr.1;have Xu:=aO Xs.1;have Xv:=aO Xu.1;have Xw:=aO Xv.1;have Xx:=aO Xw.1;have Xy:=aO Xx.1;have Xz:=aO Xy.1;exact⟨a,o,fd,ps,body,(T.vn.lookup n).getD [],kG _ _ hv,hx _ _ ho,eH' RV,jY' F8,bo Xz.1,vF.mp Xz.2,oG' hb,AP Xy.2,AP Xx.2,eq_of_beq Xw.2,sM Xv.2,sM Xu.2,(qs' Xs.2).keeps hx,fY Xr.2,AP HU.2,eq_of_beq HT.2,fY e9.2,λx hx=>((Dm _ _).mp (yL.mp e8.2 x hx)).imp eq_of_beq eq_of_beq,C4▸e7.2⟩
omit kG hx in
theorem dI'{xG:gN E3}(e:dictOf o=Z xG):o.ExactDict/\∃ep,o.data= .dict xG ep:=by obtain⟨h1,h2⟩:=W0 e;obtain⟨xs,n,h3,h4⟩:=dG' h1;rw[aT h4]at h3;exact⟨h2▸⟨rfl,rfl,rfl⟩,n,h3⟩
theorem dO':∀{xG:Y E3},QX T h es xG=u->JX (λbX:Y (J×aJ)=>iV W [] W.h0 es bX) (λbX=>Pairs (nF W.prog W.w) xG bX) (λbX=>∀e∈xG,∃k,(nF W.prog W.w).is k e.key=u/\e.hash=(nF W.prog W.w).hash k) (λbX=>bX.map (·.1)=es.map (·.1)):=by
 induction es with
 | nil=>
  intro xG e;rw[vF.mp e];exact⟨[],.nil,.nil,λ_ h=>(nomatch h),rfl⟩
 | cons p r ih=>
  intro xG e;obtain⟨k,x⟩:=p;obtain⟨en,xG,rfl,e1⟩:=XZ e;have h4:=aO e1;have h3:=aO h4.1;have h2:=aO h3.1;obtain⟨t,ht⟩:=bf h2.1;obtain⟨bX,g1,g2,g3,g4⟩:=ih h4.2;have hk:(nF W.prog W.w).is k en.key=u:=ht▸G8 _ _ _ t;refine⟨(k,en.val)::bX,.cons (U1 kG hx h3.2) g1,.cons hk rfl g2,λe' he=>?_,aW (k:: ·) g4⟩;rcases oE.mp he with he|he
  exact⟨k,he▸hk,he▸fY h2.2⟩;exact g3 e' he
theorem dL'{n:O}(e:Xl T h n es=u):∃d bX ep,W.lX n=Z (.ref d)/\(d==D1)=aE/\W.h0.DictAt (nF W.prog W.w) d bX ep/\iV W [] W.h0 es bX:=by obtain⟨v,hv,e1⟩:=mS e;obtain⟨d,rfl,e2⟩:=IU e1;obtain⟨o,ho,e3⟩:=mS (aO e2).2;obtain⟨xG,Ak,e4⟩:=mS e3;obtain⟨hd,ep,F0⟩:=dI' Ak;obtain⟨bX,g1,g2,g3,g4⟩:=dO' kG hx (aO e4).2;exact⟨d,bX,ep,kG _ _ hv,sM (aO e2).1,⟨o,xG,hx _ _ ho,hd,F0,λe he=>g3 e (vt.mpr he),g2,by rw[g4];exact fY (aO e4).1⟩,g1⟩
omit kG hx in
theorem dq'{p:D2}(e:XR o=Z (p,C,N)):o=p.obj C N:=by obtain⟨cl,dd,data,⟨sl⟩⟩:=o;obtain⟨t,q1,e⟩:=LC e;obtain⟨c,q2,e⟩:=dk' e;obtain⟨nm,bs,mro,ns,q,hd,sn,sub,ab,col,dl⟩:=c;obtain⟨v1,r,q3,e⟩:=EL e;obtain⟨C',q4,e⟩:=T6 e;obtain⟨v2,r2,q5,e⟩:=EL e;obtain⟨t',q6,e⟩:=LC e;obtain⟨q7,e⟩:=gi e;obtain⟨k0,r3,q8,e⟩:=EL e;obtain⟨k1,r4,q9,e⟩:=EL e;obtain⟨k2,r5,q10,e⟩:=EL e;obtain⟨k3,r6,q11,e⟩:=EL e;obtain⟨x,r7,q12,e⟩:=EL e;obtain⟨k5,r8,q13,e⟩:=EL e;obtain⟨q14,e⟩:=gi e;obtain⟨v,q15,e⟩:=dD e;obtain⟨nw,q16,e⟩:=QI e;obtain⟨hc,e⟩:=iY e;have h2:=aO hc;have h3:=aO h2.1;have h4:=aO h3.1;have h5:=aO h2.2;have h6:=aO h5.1;have e:=aT e;rw[show p=_ from (aW (·.1) e).symm,show C=C' from (aW (·.2.1) e).symm,show N=ns from (aW (·.2.2) e).symm];rw[show cl=_ from q1,show data=_ from q2,show mro=_ from q3,q4,q5,q6,q7,show sl=_ from q8,q9,q10,q11,q12,q13,q14,q15,q16,eq_of_beq h4.1,eq_of_beq h4.2,eq_of_beq h3.2,show hd=u from h6.1,show ab=aE from sM h6.2,show dl=aE from sM h5.2]
omit kG hx in
theorem ie{y:aG aJ}(e:Nq x=Z y):FN (.type "object") x=pure y:=by rw[typeLookup_type,builtinLookup_eq_fast];unfold Nq at e;rw[e]
omit kG in
theorem bm{a:bC}(e:SW h a=u):fQ (λo=>W.h0.get? a=Z o) (λo=>o.cls= .type "function"):=by obtain⟨o,ho,e1⟩:=mS e;exact⟨o,hx _ _ ho,It e1⟩
omit kG hx in
theorem Ws{l:Y (O×α)}{f:O×α->aC}{c:O}{a:α}(e:l.all (λe=> !(hU e.1 c)||f e)=u)(hm:(c,a)∈l):f (c,a)=u:=by have h:=yL.mp e _ hm;dsimp only at h;rw[LY]at h;exact h
theorem dr'{c gR:O}(C4:W.an=λa=>T.an[a]?)(M0:∀a,W.G.qF c a=u->(c,a)∈dat)(Hj:∀a f,W.G.aX c a=Z f->(c,a,f)∈mt)(e:XQ T h dat mt c gR=u):Px (WX W c gR):=by
 obtain⟨v,hv,e1⟩:=mS e;obtain⟨C,rfl,e2⟩:=IU e1;obtain⟨o,ho,e3⟩:=mS e2;obtain⟨⟨p,C',N⟩,hq,e4⟩:=mS e3;have h8:=aO e4;have h7:=aO h8.1;have h6:=aO h7.1;have h5:=aO h6.1;have h4:=aO h5.1;have h3:=aO h4.1;have h2:=aO h3.1;have Zb:=hx _ _ ho;rw[dq' hq,show C'=C from AP h2.1]at Zb;obtain⟨vi,hvi,e5⟩:=mS h6.2;obtain⟨fI,rfl,e6⟩:=IU e5;obtain⟨v2,GC,e7⟩:=mS (aO e6).1;obtain⟨oI,EY,hcI⟩:=bm hx (aO e6).2;refine⟨C,N,h.nsMap N,p,kG _ _ hv,Zb,Ns.lL (Oz h2.2) (λo e=>hx _ _ e),CZ.mp h3.2,CZ.mp h4.2,CZ.mp h5.2,⟨fI,oI,kG _ _ hvi,GC.trans (aW Z (It e7)),EY,hcI⟩,λa x ha KI=>?_,λa f x hf KI=>?_⟩
 ·obtain⟨x',SH,e8⟩:=mS (Ws h7.2 (M0 a ha))
  rw[C4]at KI;rw[aT (SH.symm.trans KI)]at e8;obtain⟨r,hr,e9⟩:=mS (aO e8).2;exact⟨CZ.mp (aO e8).1,ie (hr.trans (aW Z (CZ.mp e9)))⟩
 ·obtain⟨x',SH,e8⟩:=mS (Ws h8.2 (Hj a f hf))
  rw[C4]at KI;rw[aT (SH.symm.trans KI)]at e8;obtain⟨vf,hvf,e9⟩:=mS e8;obtain⟨fa,rfl,HT⟩:=IU e9;obtain⟨v3,hv3,HU⟩:=mS (aO (aO HT).1).1;obtain⟨DS,Ru,Fz⟩:=bm hx (aO (aO HT).1).2;obtain⟨y,hy⟩:=rV.mp (aO HT).2;exact⟨fa,DS,y,hv3.trans (aW Z (It HU)),kG _ _ hvf,Ru,Fz,ie hy⟩
end
noncomputable def KP:Kind->aC
 | .cls _=>u
 | _=>aE
theorem bj{k:Kind}(h:KP k=u):∃i,k= .cls i:=by cases k<;>first|exact dA h|exact⟨_,rfl⟩
theorem bk{k:Kind}(h:NQ k=u):Lz λnp nv b=>k= .fn np nv b:=by cases k<;>first|exact dA h|exact⟨_,_,_,rfl⟩
theorem pa'{T:Tb}(kG:∀n v,T.g n=Z v->W.lX n=Z v)(hx:∀b o,h.get? b=Z o->W.h0.get? b=Z o)(C4:W.an=λa=>T.an[a]?)
  (M0:∀c a,W.G.qF c a=u->(c,a)∈dat) (Hj:∀c a f,W.G.aX c a=Z f->(c,a,f)∈mt)
  (fv':∀n xs,W.G.kind n= .sH xs->xs.length<=aF/\∃a items,W.lX n=Z (.ref a)/\oH W.h0 a items/\cX W [] W.h0 (xs.map .int) items.toList)
  (gf':(h.get? D1).isSome=u) (C6:∀n,NT T h W.G.kind dat mt n (W.G.kind n)=u) (Rn:decide T.an.Nodup=u) (dE:T.an.length<=AR) (fx':∀n v,W.lX n=Z v->WK v=pure v)
  (hdk:dat.all (λe=>KP (W.G.kind e.1))=u) (M9:mt.all (λe=>KP (W.G.kind e.1)&&NQ (W.G.kind e.2.2))=u):
  qC W/\∀n np nv b,W.G.kind n= .fn np nv b->JT W (λx=>T.gl.lookup x) n np nv b:=by
 have hk:∀n {k},W.G.kind n=k->NT T h W.G.kind dat mt n k=u:=λn k e=>e▸C6 n;have Bp:∀n np nv b,W.G.kind n= .fn np nv b->JT W (λx=>T.gl.lookup x) n np nv b:=λn np nv b e=>eA' kG hx C4 (hk n e);refine⟨⟨⟨λz=>?_,λn es e=>dL' kG hx (hk n e),fv'⟩,λc gR e=>dr' kG hx C4 (M0 c) (Hj c) (aO (hk c e)).1,λa b x ea eb=>?_,⟨T.an,dE,λa x e=>?_⟩,fx',λn b e=>?_,λn np nv b e=>?_,λc i e=>bk (aO (hk c e)).2,λc m f e=>?_,λc a e=>bj (yL.mp hdk _ (M0 c a e))⟩,Bp⟩
 ·obtain⟨o,ho⟩:=rV.mp gf'
  exact cI (z.symm.trans (hx _ _ ho))
 ·rw[C4]at ea eb
  obtain⟨l1,e1⟩:=iT.mp ea;obtain⟨l2,e2⟩:=iT.mp eb;exact (Va (fY Rn)).mp (e1.trans e2.symm)
 ·rw[C4]at e
  exact oF e
 ·obtain⟨y,hy,e2⟩:=mS (hk n e)
  exact kG _ _ (hy.trans (aW Z (It e2)))
 ·obtain⟨a,o,fd,_,_,_,g1,g2,g3,_⟩:=Bp n np nv b e
  exact⟨a,o,fd,g1,g2,g3⟩
 ·have:=aO (yL.mp M9 _ (Hj c m f e))
  exact⟨bj this.1,bk this.2⟩
def nZ:Tb where
 ga:=[Z (.builtin "len"),Z (.builtin "min"),Z (.builtin "max"),Z (.type "range"),Z (.type "list"),Z (.type "tuple"),Z (.builtin "sum"),Z (.builtin "all"),Z (.ref 116),Z (.ref 185),Z (.ref 375),Z (.ref 658),Z (.ref 686),Z (.ref 909),Z (.ref 30),Z (.ref 37),Z (.ref 44),Z (.ref 127),Z (.ref 134),Z (.ref 141),Z (.ref 148),Z (.ref 155),Z (.ref 162),Z (.ref 167),Z (.ref 113),Z (.ref 182),Z (.ref 203),Z (.ref 210),Z (.ref 217),Z (.ref 224),Z (.ref 231),Z (.ref 238),Z (.ref 245),Z (.ref 252),Z (.ref 259),Z (.ref 266),Z (.ref 273),Z (.ref 280),Z (.ref 287),Z (.ref 294),Z (.ref 301),Z (.ref 306),Z (.ref 313),Z (.ref 320),Z (.ref 327),Z (.ref 334),Z (.ref 339),Z (.ref 346),Z (.ref 353),Z (.ref 360),Z (.ref 365),Z (.ref 372),Z (.ref 386),Z (.ref 393),Z (.ref 400),Z (.ref 407),Z (.ref 414),Z (.ref 421),Z (.ref 428),Z (.ref 435),Z (.ref 442),Z (.ref 449),Z (.ref 456),Z (.ref 463),Z (.ref 477),Z (.ref 484),Z (.ref 491),Z (.ref 498),Z (.ref 505),Z (.ref 526),Z (.ref 617),Z (.ref 624),Z (.ref 634),Z (.ref 648),Z (.ref 655),Z (.ref 676),Z (.ref 683),Z (.ref 814),Z (.ref 821),Z (.ref 826),Z (.ref 831),Z (.ref 859),Z (.ref 866),Z (.ref 873),Z (.ref 887),Z (.ref 918),Z (.ref 937),Z (.ref 945),Z (.ref 952),Z (.ref 959),Z (.ref 964),Z (.ref 971),Z (.ref 978),Z (.ref 985),Z (.ref 992),Z (.ref 999),Z (.ref 1006),Z (.ref 1013),Z (.ref 1020),Z (.ref 1027),Z (.ref 1034),Z (.ref 1041),aB,aB,aB,Z (.ref 1048),aB,Z (.ref 22),Z (.ref 23),Z (.ref 45),Z (.ref 58),Z (.ref 625),aB,Z (.ref 470),Z (.ref 512),Z (.ref 519),Z (.ref 533),Z (.ref 540),Z (.ref 547),Z (.ref 568),Z (.ref 575),Z (.ref 582),Z (.ref 589),Z (.ref 596),Z (.ref 603),Z (.ref 610),Z (.type "enumerate")]
 gl:=[(bR "enumerate",.g 126),(bR "HEAP_NAMES",.g 108),(bR "is_ref",.g 14),(bR "EMPTY",(.int (-64))),(bR "KIND_NAMES",.g 107),(bR "len",.g 0),(bR "ONE_PLACES",(.aM [(.int 69),(.int 80),(.int 103),(.int 104),(.int 105),(.int 121),(.int 122),(.int 123),(.int 167),(.int 172),(.int 173),(.int 192),(.int 193),(.int 194),(.int 195),(.int 196),(.int 64)])),(bR "EQZ_32",(.int 69)),(bR "LAST_NUMBER_CODE",(.int 196)),(bR "LAST_COMPARE",(.int 90)),(bR "REF_IS_NULL",(.int 209)),(bR "GOAL_CODES",(.aM [(.int 35),(.int 37),(.int 63),(.int 64),(.int 209),(.int 210),(.int 64528),(.int 256),(.int 257)])),(bR "LOADS",.g 109),(bR "is_reckoning",.g 18),(bR "TWO_N",(.int 16384)),(bR "ON_N",(.int 20480)),(bR "JUMP",(.int 259)),(bR "JUMP_IF",(.int 260)),(bR "JUMP_UNLESS",(.int 261)),(bR "ON",(.int 4096)),(bR "MOST_THREADS",(.int 8)),(bR "range",.g 3),(bR "is_jump",.g 21),(bR "threaded",.g 22),(bR "JUMP_TABLE",(.int 262)),(bR "tuple",.g 5),(bR "max",.g 2),(bR "PLACE",(.int 0)),(bR "NUMBER",(.int 1)),(bR "CONST",(.int 257)),(bR "MOVE",(.int 256)),(bR "has_goal",.g 20),(bR "is_compare",.g 19),(bR "EQZ_64",(.int 80)),(bR "OFF_N",(.int 24576)),(bR "OFF",(.int 8192)),(bR "LOOP",(.int 3)),(bR "Frame",.g 9),(bR "BLOCK",(.int 2)),(bR "default_value",.g 15),(bR "resolved",.g 23),(bR "Rows",.g 8),(bR "ELSE",(.int 5)),(bR "END",(.int 11)),(bR "IF",(.int 4)),(bR "DOERS",.g 111),(bR "STORES",.g 110),(bR "is_one_place",.g 17),(bR "do_one",.g 70),(bR "do_two",.g 71),(bR "UNREACHABLE",(.int 0)),(bR "block_kind",.g 16),(bR "RETURN",(.int 267)),(bR "RETURN_CALL",(.int 18)),(bR "TAIL",(.int 265)),(bR "CALL",(.int 263)),(bR "put_results",.g 62),(bR "SELECT",(.int 258)),(bR "I32_CONST",(.int 65)),(bR "TURNABLE",(.aM [(.int 70),(.int 71),(.int 81),(.int 82),(.int 106),(.int 108),(.int 113),(.int 114),(.int 115),(.int 124),(.int 126),(.int 131),(.int 132),(.int 133)])),(bR "Compiler",.g 10),(bR "FUNCTION",(.int 0)),(bR "parts_of",.g 85),(bR "min",.g 1),(bR "_law_fill",.g 88),(bR "_law_kinds",.g 86),(bR "_law_items",.g 92),(bR "_law_shut",.g 89),(bR "_law_next",.g 87),(bR "_law_item",.g 93),(bR "_law_block",.g 91),(bR "_law_jump",.g 90),(bR "_law_twos",(.aM [(.int 106),(.int 107),(.int 108),(.int 115),(.int 118),(.int 70),(.int 73)])),(bR "Module",.g 13),(bR "list",.g 4),(bR "Import",.g 11),(bR "Func",.g 12),(bR "_law_called",.g 96),(bR "_law_two",.g 95),(bR "_law_ends",.g 97),(bR "_law_sizes",.g 98),(bR "_law_plain",.g 99),(bR "all",.g 7),(bR "_law_module",.g 94),(bR "sum",.g 6),(bR "rows_of",.g 72),(bR "_law_by_rows",.g 101),(bR "_law_by_body",.g 100)]
 an:=ax'.map bR
 vn:=pW'.map λe=>(e.1,e.2.map bR)
theorem gX'(P:uA)(gH:Y J):((fX 127).all λn=>NT nZ (H1 P) (cx gH).kind Jk KV n ((cx gH).kind n))=u:=by kernel_rfl
theorem eW'(P:uA):nZ.gl.all (Yi nZ (H1 P))=u:=by kernel_rfl
theorem Y3(P:uA):((H1 P).isNs 3&&(H1 P).isNs 0&&((H1 P).get? D1).isSome&&mD (λv=>Gr v (.ref 1048)) ((H1 P).nsMap 3 (bR "law"))&&((H1 P).isNs cStatics&&((H1 P).nsMap cStatics "sys.recursionlimit").isNone))=u:=by kernel_rfl
theorem oW'(gH:Y J):(decide nZ.an.Nodup&&(nZ.ga.all λv=>match v with|some y=>handedIn y|none=>u)&&Jk.all (λe=>KP ((cx gH).kind e.1))&&KV.all (λe=>KP ((cx gH).kind e.1)&&NQ ((cx gH).kind e.2.2)))=u:=by kernel_rfl
theorem L1:nZ.an[0]?=Z (bR "append")/\nZ.an[1]?=Z (bR "pop")/\nZ.an[2]?=Z (bR "extend")/\nZ.an[3]?=Z (bR "get"):=⟨by kernel_rfl,by kernel_rfl,by kernel_rfl,by kernel_rfl⟩
theorem dW':nZ.gl.lookup (bR "enumerate")=Z (.g 126):=by kernel_rfl
theorem eM':nZ.g 126=Z (.type "enumerate"):=by kernel_rfl
theorem gD'{vs:Y aJ}{ns:Y J}(i:IntsAre vs ns):cX W [] h (ns.map .int) vs:=by
 induction i with
 | nil=>exact .nil
 | cons n t r ih=>exact .cons (.int n t) ih
def CO(w:jS)(gH:Y J)(l:bC)(h:bS):Wd:=⟨lG.row.prog,w,cx gH,λn=>if n=112 then Z (.ref l) else nZ.g n,λa=>nZ.an[a]?,h⟩
theorem ch{n:O}(h: ¬ n<127):(cx gH).kind n= .kX:=by show (Sg gH).getD n .kX= .kX;rw[sW,lF (sY (show ¬ n<(Sg gH).length from h))];rfl
theorem ez'(gH:Y J):((fX 127).all λn=>hU n 112||(HV ((cx gH).kind n)).isNone)=u:=by kernel_rfl
theorem ey'{n:O}{xs:Y J}(e:(cx gH).kind n= .sH xs):n=112/\xs=gH:=by
 by_cases hn:n<127
 ·rcases (Dm _ _).mp (yL.mp (ez' gH) n (Gz.mpr hn)) with z|z
  ·have z:=AP z
   rw[z]at e;exact⟨z,aT (aW HV (e.symm.trans (show (cx gH).kind 112= .sH gH from rfl)))⟩
  ·rw[e]at z
   exact dA z
 ·exact Kind.noConfusion (e.symm.trans (ch hn))
theorem qk'{w:jS}{l:bC}(hx:∀b o,(H1 w.params).get? b=Z o->h.get? b=Z o){vs:Y aJ}(hl:h.get? l=Z {cls:=.type "list",data:=.seq vs.toArray})(hi:IntsAre vs gH)(h63:gH.length<=aF):
  A5 (qC (CO w gH l h)) (FO (CO w gH l h)) (HE (CO w gH l h) (λx=>nZ.gl.lookup x)) (Lr (CO w gH l h) (λx=>nZ.gl.lookup x)) (∀n np nv b,(CO w gH l h).G.kind n= .fn np nv b->JT (CO w gH l h) (λx=>nZ.gl.lookup x) n np nv b):=by
 have hT:=aO (oW' gH);have Yq:=aO hT.1;have Mu:=aO Yq.1;have hH:=aO (Y3 w.params);have hH1:=aO hH.1;have Q9:=aO hH1.1;have kG:∀n v,nZ.g n=Z v->(CO w gH l h).lX n=Z v:=λn v e=>(aR λz=>cI ((show nZ.g 112=aB from rfl).symm.trans (z▸e))).trans e;have main:=pa' (W:=CO w gH l h) (T:=nZ) (h:=H1 w.params) (dat:=Jk) (mt:=KV) kG hx rfl
  (λc a e=>by
   obtain⟨p,hp,hq⟩:=E5.mp (show (Jk.any λe=>e.1==c&&e.2==a)=u from e);have hq:=aO hq;rw[<-eq_of_beq hq.1,<-eq_of_beq hq.2];exact hp)
  (λc a f e=>by
   obtain⟨p,hp,hq⟩:=Ca.mp (show ((KV.find? λe=>e.1==c&&e.2.1==a).map (·.2.2))=Z f from e);have h0:=yc hp;have h1:=aO h0;rw[<-eq_of_beq h1.1,<-eq_of_beq h1.2,<-hq];exact yn hp)
  (λn xs e=>by
   obtain⟨e1,e2⟩:=ey' e;rw[e1,e2];exact⟨h63,l,vs.toArray,rfl,⟨_,hl⟩,by rw[List.toList_toArray];exact gD' hi⟩)
  Q9.2 (λn=>by
   by_cases hn:n<127;exact yL.mp (gX' w.params gH) n (Gz.mpr hn)
   ·show NT _ _ _ _ _ n ((cx gH).kind n)=u
    rw[ch hn];rfl) Mu.1
  (by rw[qb];decide)
  (λn v e=>by
   by_cases hn:n=112;rw[<-aT ((aZ hn).symm.trans (show (if n=112 then Z (.ref l) else nZ.g n)=Z v from e))];rfl
   ·have e1:nZ.ga[n]?=Z (Z v):=c8.mp ((aR hn).symm.trans (show (if n=112 then Z (.ref l) else nZ.g n)=Z v from e))
    exact handedOut_of (yL.mp Mu.2 _ (oF e1)))
  Yq.2 hT.2
 refine⟨main.1,⟨L1.1,L1.2.1,L1.2.2.1,L1.2.2.2⟩,eU' kG hx (aO Q9.1).1 (aO Q9.1).2 (eW' _),λv e=>?_,main.2⟩;exact⟨126,aT ((show nZ.gl.lookup (bR "enumerate")=Z v from e).symm.trans dW'),kG _ _ eM'⟩
set_option tactic.hygienic true in
theorem qI'(main:∀gH:Y J,gH.length<=63->wF (cx gH) 60 105 [.g 112] [] λv _=>v= .bool u):lG.Holds:=by
 refine fl' ?_;intro w s₀ s₁ mg mb G Co a o pm cd doc dV kV ho hd hcd hD hmg hg args vals as fZ' fC' Hw Hz Ri
 wrow_args fZ' fC' Hw Hz Ri
 rename_i gH hs h0 Ms rI nJ w4 w3 l vs w0 hL ra w1 r0 hI hr Mx hc2;have dE:gH.length<=63:=fV.mp (oD.mp Mx);have hw:s₁.heap.get? l=Z {cls:=.type "list",data:=.seq vs.toArray}:=by
  obtain⟨o1,Hm,_,n1,Aj⟩:=hL;have w1':Well w.params s₁.heap (.ref l) (.list (ofPys (gH.map .int))):=w1;cases w1' with
  | list hg _=>
   rw[hg]at Hm;cases Hm;have:_=_:=Aj;cases this;exact hg
 have hT:=G.T;obtain⟨wo,ao,gl,en,Qv⟩:=qk' (l:=l) Co hw hI (by rw[KX];omega);have hH:=aO (Y3 w.params);have ha:a=1048:=by
  obtain⟨v,hv,e1⟩:=mS (aO hH.1).2;have hn:s₁.heap.Ns 3 ((H1 w.params).nsMap 3):=Ns.lL (Oz (aO (aO (aO hH.1).1).1).1) λo e=>Co _ _ e;have h1:=hn.eq_nsMap;have h2:=hT.g.eq_nsMap;have h3:mg (bR "law")=Z v:=by
   rw[h2,show WN=3 from rfl,<-h1];exact hv
  exact Cc ((aT ((show mg (bR "law")=Z (.ref a) from hmg).symm.trans h3)).trans (It e1))
 subst ha;have room:Ck callerA 60:=⟨rfl,by decide,by decide⟩;have st:St (CO w gH l s₁.heap) [] [] s₁.heap:=⟨rfl,λ_ _ e=>e,λi o p ho=>cI ho,(λa ⟨p,hp,_⟩=>nomatch hp),λi j p q a hp=>cI hp,λa o ⟨p,hp,_⟩=>nomatch hp⟩;have R8:(CO w gH l s₁.heap).lX 112=Z (.ref l):=rfl;refine di' wo ao gl en hT.nolimit Qv 60 callerA room (n:=105) (np:=1) (nv:=8) (b:=oJ) (f:=.ref 1048) rfl rfl st (.cons (.g R8) .nil) (U5▸main gH dE) _ _ λv H' hv μ' h' tk y m hy=>?_;rw[hv]at hy;rw[show y=_ from hy.cN];refine⟨.inl ⟨_,_,[],rfl,(λ_=>rfl),ReadsW.bool u,?_,λ_=>⟨G0,λ_ hm=>(nomatch hm)⟩⟩,.of_keep m.st.iH,rfl,.of_eq hg⟩;first|rfl|wrow_post
section
variable{h:O}{s:J}
set_option genCtorIdx false
set_option genCtorIdx true in
inductive aQ where
 | num(n:J)|pl (s:J)
 deriving DecidableEq
inductive Arg where
 | i(n:J)|t (l:Y J)
structure dF where
 op:J
 a:J
 b:Arg
 c:J
structure Fr where
 bB:O
 code:J
 bP:J
 params:J
 gS:J
 gE:aG J
 Fe:aG J
 eE:aG J
 used:aC
structure X where
 aP:Y dF
 aH:Y J
 bV:J
 R:Y aQ
 aF:J
 aA:Y Fr
 bH:aC
 cL:J
variable{y:X}
noncomputable def aQ.v:aQ->V
 | .num n=>.aM [.int 1,.int n]
 | .pl s=>.aM [.int 0,.int s]
noncomputable def Arg.v:Arg->V
 | .i n=>.int n
 | .t l=>.aM (l.map .int)
def dF.v(r:dF):V:=.aM [.int r.op,.int r.a,r.b.v,.int r.c]
noncomputable def oV:aG J->V
 | some i=>.int i
 | none=>.none
def Fr.o(f:Fr):bY:=.inst 9 [(9,.int f.code),(10,.int f.bP),(6,.int f.params),(8,.int f.gS),(11,oV f.gE),(12,oV f.Fe),(13,oV f.eE),(14,.bool f.used)]
structure Ad where
 c:O
 m:O
 fn:O
 r:O
 l:O
 f:O
 s:O
noncomputable def X.o(a:Ad)(x:X):bY:=.inst 10 [(15,.ref a.m),(16,.ref a.fn),(19,.int 4),(8,.int 2),(4,.ref a.r),(21,.ref a.l),(22,.int x.bV),(23,.ref a.s),(24,.int x.aF),(25,.ref a.f),(26,.bool x.bH),(27,.int x.cL)]
variable{o:bY}
noncomputable def Ad.own(a:Ad)(x:X):Y O:=a.c::a.r::a.l::a.f::a.s::x.aA.map (·.bB)
noncomputable def X.size(x:X):O:=x.aP.length+x.aH.length+x.R.length+x.aA.length
variable{a:Ad}{x:X}{H:Hp}
theorem Jw{i:O}(h:H[i]?=Z o):i<H.length:=(iT.mp h).1
namespace X
noncomputable def cH(x:X)(op a:J)(b:Arg)(c:J):X:= {x with aP:=x.aP++[⟨op,a,b,c⟩]}
noncomputable def cY(x:X):X:= {x with aH:=x.aH++[-1]}
noncomputable def dS(x:X)(l:O):X:= {x with aH:=x.aH.set l x.aP.length,bV:=x.aP.length}
noncomputable def push(x:X)(e:aQ):X:= {x with R:=x.R++[e],aF:=(if (x.R.length:J)+1>x.aF then (x.R.length:J)+1 else x.aF)}
def iJ(x:X):X:=x.push (.pl (4+x.R.length))
noncomputable def pop(x:X):X:= {x with R:=x.R.dropLast}
def fS(x:X)(iP:J):aQ->X
 | .num n=>x.cH 257 iP (.i n) 0
 | .pl s=>if s=iP then x else x.cH 256 iP (.i s) 0
def fT(x:X)(h:J):aQ->X×J
 | .num n=>(x.cH 257 (4+h) (.i n) 0,4+h)
 | .pl s=>(x,s)
noncomputable def BB(x:X)(h:O)(e:aQ):X:= {x with R:=x.R.set h e}
def iK(x:X)(h:O):X:=match x.R[h]? with
 | some e=>(x.fS (4+h) e).BB h (.pl (4+h))
 | none=>x
def sS(x:X)(b:O):O->X
 | 0=>x
 | n+1=>(x.sS b n).iK (b+n)
def dB(x:X)(aD:O):X:=x.sS (x.R.length-aD) aD
def jP(x:X):O->X
 | 0=>x
 | n+1=>(x.jP n).pop
@[simp] theorem Kq{e:aQ}: (x.fS s e).R=x.R:=by
 cases e with
 | num n=>rfl
 | pl t=>simp only[fS];split<;>rfl
@[simp] theorem kc{e:aQ}: (x.fS s e).aA=x.aA:=by
 cases e with
 | num n=>rfl
 | pl t=>simp only[fS];split<;>rfl
theorem IS{e:aQ}: (x.fS s e).size<=x.size+1:=by
 cases e with
 | num n=>simp [fS,cH,size];lia
 | pl t=>simp only[fS];split<;>simp [cH,size];lia
@[simp] theorem ng'{e:aQ}: (x.BB h e).size=x.size:=by simp [BB,size]
theorem pv: (x.iK h).size<=x.size+1:=by unfold iK;split;rw[ng'];exact IS;lia
@[simp] theorem nr': (x.iK h).R.length=x.R.length:=by unfold iK;split;simp [BB];rfl
@[simp] theorem no': (x.iK h).aA=x.aA:=by unfold iK;split;simp [BB];rfl
theorem UM{x:X}{b:O}:∀{n:O},(x.sS b n).size<=x.size+n
 | 0=>cE _
 | n+1=>aL pv (gP UM)
@[simp] theorem Gk{x:X}{b:O}:∀{n:O},(x.sS b n).R.length=x.R.length
 | 0=>rfl
 | n+1=>by simp [sS,Gk]
@[simp] theorem pw{x:X}{b:O}:∀{n:O},(x.sS b n).aA=x.aA
 | 0=>rfl
 | n+1=>by simp [sS,pw]
theorem Xo{x:X}:∀{n:O},(x.jP n).R.length=x.R.length-n
 | 0=>rfl
 | n+1=>by simp [jP,pop,Xo];lia
@[simp] theorem Jn{x:X}:∀{n:O},(x.jP n).aA=x.aA
 | 0=>rfl
 | n+1=>by simp [jP,pop,Jn]
end X
theorem jH'(h:y.aA=x.aA):a.own y=a.own x:=by unfold Ad.own;rw[h]
theorem tL{l:Y α}(h:0<l.length):∃e,l.getLast? = Z e:=by
 cases e:l.getLast? with
 | some x=>exact⟨x,rfl⟩
 | none=>rw[List.getLast?_eq_none_iff]at e;subst e;simp at h
noncomputable def SZ(op:J):aC:=decide (69<=op)&&decide (op<=196)
noncomputable def GI(op:J):aC:=(decide (69<=op)&&decide (op<=90))||op==209
noncomputable def oM(i:J)(l:Y J):aC:=l.any λj=>i==j
noncomputable def Mi:Y J:=[35,37,63,64,209,210,64528,256,257]
noncomputable def Nc:Y J:=[40,41,44,45,46,47,48,49,50,51,52,53]
def tN(op:J):aC:=oM op Mi||(oM op Nc||SZ op)||(decide (16384<=op)&&decide (op<20480))
namespace X
def gA(x:X)(aY:J):O->X
 | 0=>x
 | k+1=>if (x.gA aY k).R[k]?=Z (.pl aY) then (x.gA aY k).iK k else x.gA aY k
def AF(x:X)(aY:J):O->J
 | 0=>0
 | k+1=>if (x.gA aY k).R[k]?=Z (.pl aY) then x.AF aY k+1 else x.AF aY k
noncomputable def eB(n:O):Y aQ:=(fX n).map λ(k:O)=>.pl (4+(k:J))
noncomputable def Eb(x:X)(fh:J)(aD:O):aC:=decide (x.R.drop (x.R.length-aD)=(fX aD).map λ(k:O)=>.pl (4+(fh+(k:J))))
noncomputable def qH(x:X)(e:aQ):aG dF:=match x.aP.getLast? with
 | some r=>if e= .pl (4+x.R.length)/\(x.aP.length:J)>x.bV/\r.a=4+x.R.length then Z r else aB
 | none=>aB
def pO(op:J):aC:=GI op||(decide (16384<=op)&&decide (op<20480)&&GI (op-16384))
noncomputable def eJ:aQ->J×Arg×J
 | .num n=>(257,.i n,0)
 | .pl s=>(256,.i s,0)
def dC(x:X)(e:aQ):X×(J×Arg×J):=match x.qH e with
 | some r=>if pO r.op then ({x with aP:=x.aP.dropLast},(r.op,r.b,r.c)) else (x,eJ e)
 | none=>(x,eJ e)
def mO(x:X)(op n c:J)(uZ:aC)(cY:J):X:=
 if op=257 then (if (n != 0)==uZ then x.cH 259 cY (.i 0) 0 else x)
 else if op=256 then x.cH (if uZ then 260 else 261) cY (.i n) 0
 else if op=69\/op=80 then x.cH (if uZ then 261 else 260) cY (.i n) 0
 else if op≥16384 then x.cH (op-16384+(if uZ then 20480 else 24576)) cY (.i n) c
 else x.cH (op+(if uZ then 4096 else 8192)) cY (.i n) c
def uV(y:X)(n aY:J)(e:aQ):X:=
 match (if n=0 then y.qH e else aB) with
 | some r=>if tN r.op then ({y with aP:=y.aP.dropLast}: X).cH r.op aY r.b r.c else y.fS aY e
 | none=>y.fS aY e
def lM(x:X)(aY:J)(e:aQ):X:=(x.gA aY x.R.length).uV (x.AF aY x.R.length) aY e
def rM(x:X)(b:O)(fh:J):O->X
 | 0=>x
 | k+1=>match x.R[b+k]? with
  | some e=>(x.rM b fh k).fS (4+(fh+k)) e
  | none=>x.rM b fh k
def iF(x:X)(fh:J)(aD:O):X:=x.rM (x.R.length-aD) fh aD
theorem OS{x:X}{i:J}:∀{k:O},(x.gA i k).size<=x.size+k
 | 0=>cE _
 | k+1=>by
  have:=OS (x:=x) (i:=i) (k:=k);simp only[gA];split;exact aL pv (by lia);lia
@[simp] theorem Gh{x:X}{i:J}:∀{k:O},(x.gA i k).R.length=x.R.length
 | 0=>rfl
 | k+1=>by
  simp only[gA];split;rw[nr'];exact Gh;exact Gh
@[simp] theorem nj{x:X}{i:J}:∀{k:O},(x.gA i k).aA=x.aA
 | 0=>rfl
 | k+1=>by
  simp only[gA];split;rw[no'];exact nj;exact nj
@[simp] theorem Nk{x:X}{b:O}{fh:J}:∀{k:O},(x.rM b fh k).R=x.R
 | 0=>rfl
 | k+1=>by simp only[rM];split<;>simp [Nk]
@[simp] theorem DQ{x:X}{b:O}{fh:J}:∀{k:O},(x.rM b fh k).aA=x.aA
 | 0=>rfl
 | k+1=>by simp only[rM];split<;>simp [DQ]
theorem TK{x:X}{b:O}{fh:J}:∀{k:O},(x.rM b fh k).size<=x.size+k
 | 0=>cE _
 | k+1=>by
  have:=TK (x:=x) (b:=b) (fh:=fh) (k:=k);simp only[rM];split;exact aL IS (by lia);lia
end X
theorem is'{l:Y Fr}{i:O}{f f':Fr}(hi:l[i]?=Z f)(ha:f'.bB=f.bB):(l.set i f').map (·.bB)=l.map (·.bB):=by
 rw[I6];apply yM;intro j;by_cases h:i=j
 ·subst h
  rw[jZ (by simpa using (iT.mp hi).1),fJ,hi,ha];rfl
 ·rw[kL h]
theorem Bk{e:aQ}{r:dF}: x.qH e=Z r↔x.aP.getLast? = Z r/\e= .pl (4+x.R.length)/\(x.aP.length:J)>x.bV/\r.a=4+x.R.length:=by
 unfold X.qH;cases h:x.aP.getLast? with
 | none=>simp
 | some r'=>
  simp only[];split
  ·rename_i hc
   constructor;intro q;cases q;exact⟨rfl,hc⟩;rintro⟨q,_⟩;exact q
  ·rename_i hc
   constructor;intro q;cases q;rintro⟨q,h2⟩;cases q;exact absurd h2 hc
noncomputable def Fr.eW(f:Fr):Fr:=if f.code=3 then f else {f with used:=u}
noncomputable def Fr.aD(f:Fr):J:=if f.code=3 then f.params else f.gS
noncomputable def Fr.cT(f:Fr):aG J:=if f.code=3 then f.Fe else f.gE
namespace X
def cC(x:X)(k:O):X:=match x.aA[k]? with
 | some f=> {x with aA:=x.aA.set k f.eW}
 | none=>x
noncomputable def wI(y:X)(code:J)(np nr bB:O):Fr:=⟨bB,code,y.R.length-np,np,nr,Z y.aH.length,aB,aB,aE⟩
noncomputable def yZ(x:X)(f:Fr):X:= {x with aA:=x.aA++[f]}
def DT(y:X)(code:J)(np nr bB:O):X:=
 if code=3 then (y.cY.cY.dS (y.aH.length+1)).yZ {y.wI code np nr bB with Fe:=Z (y.aH.length+1:O)}
 else y.cY.yZ (y.wI code np nr bB)
def eG(x:X)(code:J)(np nr bB:O):X:=(x.dB x.R.length).DT code np nr bB
end X
theorem X.AH{n:O}: (x.dB n).size<=x.size+n:=X.UM
@[simp] theorem X.sR{n:O}: (x.dB n).aA=x.aA:=X.pw
@[simp] theorem X.Gj{n:O}: (x.dB n).R.length=x.R.length:=X.Gk
theorem X.Ec:x.cY.size=x.size+1:=by simp [X.cY,X.size];lia
theorem X.OB{l:O}: (x.dS l).size=x.size:=by simp [X.dS,X.size]
noncomputable def hZ(m:J):aG (O×O):=if m= -64 then Z (0,0) else if m= -1 then Z (0,1) else if m=2 then Z (1,1) else if m=3 then Z (2,1) else if m=4 then Z (1,2) else if m=5 then Z (2,2) else aB
theorem H6{a b:α}{x:aG α}{P:J->α->Prop}(h:(if m=i then Z a else x)=Z b)(y:P i a)(z:x=Z b->P m b):P m b:=by
 by_cases c:m=i
 ·rw[aZ c]at h
  rw[c,<-aT h];exact y
 ·rw[aR c]at h
  exact z h
theorem TH{n:O}{P:J->O->O->Prop}(h:hZ m=Z (n,k))(a:P (-64) 0 0)(b:P (-1) 0 1)(c:P 2 1 1)(d:P 3 2 1)(e:P 4 1 2)(f:P 5 2 2):P m n k:=
 H6 (P:=λm p=>P m p.1 p.2) h a λh=>H6 (P:=λm p=>P m p.1 p.2) h b λh=>H6 (P:=λm p=>P m p.1 p.2) h c λh=>H6 (P:=λm p=>P m p.1 p.2) h d λh=>H6 (P:=λm p=>P m p.1 p.2) h e λh=>H6 (P:=λm p=>P m p.1 p.2) h f λh=>nomatch h
set_option tactic.hygienic true in
theorem X.jz{n:J}{e:aQ}: A3 ((x.uV n i e).size<=x.size+1) ((x.uV n i e).R=x.R) ((x.uV n i e).aA=x.aA):=by
 unfold X.uV;split
 ·rename_i r hr
  split
  ·refine⟨?_,rfl,rfl⟩
   simp only[X.cH,X.size,bA,iR];exact ij'
  ·exact⟨X.IS,by simp,by simp⟩
 ·exact⟨X.IS,by simp,by simp⟩
theorem X.A2{e:aQ}: A3 ((x.lM i e).size<=x.size+x.R.length+1) ((x.lM i e).aA=x.aA) ((x.lM i e).R.length=x.R.length):=by unfold X.lM;obtain⟨h1,h2,h3⟩:=X.jz (x:=x.gA i x.R.length) (n:=x.AF i x.R.length) (i:=i) (e:=e);have:=X.OS (x:=x) (i:=i) (k:=x.R.length);exact⟨by lia,by rw[h3];simp,by rw[h2];simp⟩
noncomputable def K8(i:J):aQ->aQ
 | .pl _=>.pl i
 | .num n=>.num n
namespace X
def AC(x:X):O->X
 | 0=>x
 | n+1=>(x.AC n).iJ
def call(x:X)(f:J)(np nr:O):X:=
 (((x.dB np).jP np).cH 263 f (.i (4+(x.R.length-np:O))) 0).AC nr
def eY(x:X)(op:J)(e:aQ):X:=
 let p:=x.fT x.R.length e
 p.1.iJ.cH op (4+p.1.R.length) (.i p.2) 0
end X
theorem X.IR{e:aQ}: (x.push e).size=x.size+1:=by simp [X.push,X.size];lia
theorem X.Eh:x.iJ.size=x.size+1:=X.IR
theorem X.tJ{b:Arg}: (x.cH op i b c).size=x.size+1:=by simp [X.cH,X.size];lia
theorem X.pE:x.pop.size<=x.size:=by simp [X.pop,X.size]
theorem X.Jo:∀{n:O},(x.jP n).size<=x.size
 | 0=>cE _
 | n+1=>aL X.pE X.Jo
theorem X.OC:∀{n:O},(x.AC n).size=x.size+n/\(x.AC n).aA=x.aA/\(x.AC n).R.length=x.R.length+n
 | 0=>⟨rfl,rfl,rfl⟩
 | n+1=>by
  obtain⟨h1,h2,h3⟩:=X.OC (n:=n);refine⟨by simp only[X.AC,X.Eh,h1];lia,h2,?_⟩;simp [X.AC,X.iJ,X.push,h3];lia
noncomputable def Iq:Y J:=[70,71,81,82,106,108,113,114,115,124,126,131,132,133]
noncomputable def aQ.xR:aQ->aC
 | .num _=>u
 | .pl _=>aE
noncomputable def aQ.n:aQ->J
 | .num n=>n
 | .pl n=>n
namespace X
def dX(x:X)(code:J)(first CI:aQ):X:=
 if first.xR && !CI.xR&&oM code Iq then x.iJ.cH (16384+code) (4+x.R.length) (.i CI.n) first.n
 else ((x.fT x.R.length first).1.iJ).cH (if CI.xR then 16384+code else code) (4+(x.fT x.R.length first).1.R.length) (.i (x.fT x.R.length first).2) CI.n
noncomputable def jY(x:X)(k:O)(f:Fr):X:= {x with aA:=x.aA.set k f}
def NZ(x:X)(k:O)(f:Fr)(aD:O)(cT:J):X:= { ((x.cC k).iF f.bP aD).cH 259 cT (.i 0) 0 with bH:=aE}
def gZ(x:X)(k:O)(f:Fr)(aD:O)(cT:J)(op n c:J):X:=
 let y:=x.cC k
 if y.Eb f.bP aD then y.mO op n c u cT
 else (((y.cY.mO op n c aE y.aH.length).iF f.bP aD).cH 259 cT (.i 0) 0).dS y.aH.length
def ret(x:X)(fh:J):X:= { (x.iF fh 2).cH 267 4 (.i 2) 0 with bH:=aE}
end X
set_option tactic.hygienic true in
theorem N1: a.own (x.cC k)=a.own x:=by
 unfold X.cC;split
 ·rename_i f hf
  unfold Ad.own;rw[is' hf];unfold Fr.eW;split<;>rfl
 ·rfl
theorem X.sI: A5 ((x.cC k).size=x.size) ((x.cC k).R=x.R) ((x.cC k).aA.length=x.aA.length) ((x.cC k).aH=x.aH) ((x.cC k).aP=x.aP):=by
 unfold X.cC;split
 ·constructor<;>simp [X.size]
 ·exact⟨rfl,rfl,rfl,rfl,rfl⟩
theorem Fu{f:Fr}(hk:x.aA[k]?=Z f):(x.cC k).aA[k]?=Z f.eW:=by unfold X.cC;rw[hk];exact jZ (iT.mp hk).1
theorem Fr.HZ{f:Fr}: f.eW.bB=f.bB/\f.eW.bP=f.bP:=by unfold Fr.eW;split<;>exact⟨rfl,rfl⟩
theorem X.zW{aD:O}: A3 ((x.iF fh aD).size<=x.size+aD) ((x.iF fh aD).aA=x.aA) ((x.iF fh aD).R=x.R):=⟨X.TK,X.DQ,X.Nk⟩
theorem X.EJ{n:J}{s:aC}{l:J}: A4 ((x.mO op n c s l).size<=x.size+1) ((x.mO op n c s l).aA=x.aA) ((x.mO op n c s l).R=x.R) ((x.mO op n c s l).aH=x.aH):=by
 have h:∀{p:J} {b:Arg} {q:J},A4 ((x.cH p l b q).size<=x.size+1) ((x.cH p l b q).aA=x.aA) ((x.cH p l b q).R=x.R) ((x.cH p l b q).aH=x.aH):=λ{p b q}=>⟨by rw[X.tJ];lia,rfl,rfl,rfl⟩;unfold X.mO;split
 ·split
  exact h;exact⟨by lia,rfl,rfl,rfl⟩
 split;exact h;split;exact h;split;exact h;exact h
theorem X.Fj{e:aQ}: A4 ((x.dC e).1.size<=x.size) ((x.dC e).1.aA=x.aA) ((x.dC e).1.R=x.R) ((x.dC e).1.aH=x.aH):=by
 unfold X.dC;split
 ·split
  ·constructor<;>simp [X.size]
  ·exact⟨cE _,rfl,rfl,rfl⟩
 ·exact⟨cE _,rfl,rfl,rfl⟩
set_option tactic.hygienic true in
theorem X.eg{aD:O}: (x.iF fh aD).aH=x.aH:=by
 unfold X.iF;generalize x.R.length-aD=b;induction aD with
 | zero=>rfl
 | succ n ih=>
  simp only[X.rM];split
  ·rename_i e he
   have:∀(y:X) (s:J) (e:aQ),(y.fS s e).aH=y.aH:=λy s e=>by
    cases e with
    | num n=>rfl
    | pl t=>simp only[X.fS];split<;>rfl
   rw[this];exact ih
  ·exact ih
namespace X
def GH(y:X)(n r bB:O):Fr:=(y.dB y.R.length).wI 4 n r bB
def DD(y:X)(op i c:J)(n r bB:O):X:=
 ((y.eG 4 n r bB).cY.jY y.aA.length {y.GH n r bB with eE:=Z (y.eG 4 n r bB).aH.length}).mO op i c aE (y.eG 4 n r bB).aH.length
noncomputable def toLive(x:X)(es:Y aQ):X:= {x with R:=es,bH:=u}
def zH(x:X)(k:O)(f:Fr)(le:J):X:=if x.bH then ((x.dB x.R.length).jY k {f with used:=u}).cH 259 le (.i 0) 0 else x
noncomputable def rB(x:X)(f:Fr):Fr:=if x.bH then {f with used:=u} else f
def Ac(x:X)(k:O)(f:Fr)(le:J)(el hp:O):X:=
 (((x.zH k f le).dS el).jY k {x.rB f with eE:=aB}).toLive (eB hp)
end X
theorem X.Us{f:Fr}: (x.jY k f).size=x.size:=by simp [X.jY,X.size]
theorem X.ix{n:O}: (y.eG 4 n r bB).aA=y.aA++[y.GH n r bB]/\(y.eG 4 n r bB).size<=y.size+y.R.length+2:=by
 unfold X.eG X.DT;rw[aR (by decide)];have h1:=X.AH (x:=y) (n:=y.R.length);refine⟨?_,?_⟩
 ·show (y.dB y.R.length).aA++[_]=_
  rw[X.sR];rfl
 ·have:∀(aN:X) (f:Fr),(aN.yZ f).size=aN.size+1:=λaN f=>by simp [X.yZ,X.size];lia
  rw[this,X.Ec];lia
namespace X
noncomputable def H8(x:X):X:= {x with bH:=u}
noncomputable def iA(x:X):X:= {x with aA:=x.aA.dropLast}
def uK(x:X):X:=if x.bH then x.dB x.R.length else x
def Ae(x:X):aG J->X
 | some l=>(x.dS l.toNat).H8
 | none=>x
def vQ(x:X)(used:aC)(fe:O):X:=if used then (x.dS fe).H8 else x
noncomputable def zV(i j:J):J:=if j>i then j else i
def rC(x:X)(hp:O):X:= {x with R:=eB hp,aF:=zV x.aF hp}
def vP(x:X):X:=if x.aA.isEmpty&&x.bH then x.cH 267 4 (.i 2) 0 else x
def Cu(x:X)(f:Fr)(fe hp:O):X:=((((x.iA.uK).Ae f.eE).vQ f.used fe).rC hp).vP
def uY(y:X)(CI:aQ):X:=if CI= .pl (4+((y.R.length:J)+1)) then (y.fS (4+y.R.length) CI).push (.pl (4+y.R.length)) else y.push CI
def Gi(y:X)(n:J)(CI:aQ):X:=if n=0 then y.pop.uY CI else y
def kI(x:X):aQ->X
 | .pl _=>(((x.dB 3).jP 3).cH 258 (4+(x.R.length-3:O)) (.i 0) 0).iJ
 | .num n=>x.pop.pop.Gi n (x.pop.R.getLast?.getD (.num 0))
end X
noncomputable def nV(l:Y (J×J))(k:J):aG J:=(l.find? λe=>e.1==k).map (·.2)
structure TS where
 x:X
 dW:Y (J×J)
 iD:Y J
variable{t:TS}
noncomputable def cO(x:X)(dd:O):O:=x.aA.length-1-dd
def TS.step(t:TS)(dd:O):TS:=match t.x.aA[cO t.x dd]? with
 | some f=>if (t.x.cC (cO t.x dd)).Eb f.bP f.aD.toNat then ⟨t.x.cC (cO t.x dd),t.dW,t.iD++[f.cT.getD 0]⟩
  else match nV t.dW dd with
   | some l=>⟨t.x.cC (cO t.x dd),t.dW,t.iD++[l]⟩
   | none=>⟨(t.x.cC (cO t.x dd)).cY,t.dW++[((dd:J),(t.x.aH.length:J))],t.iD++[(t.x.aH.length:J)]⟩
 | none=>t
def TS.gJ(t:TS):Y O->TS
 | []=>t
 | d::r=>(t.step d).gJ r
def qR(x:X)(p:J×J):X:=match x.aA[cO x p.1.toNat]? with
 | some f=>(((x.cC (cO x p.1.toNat)).dS p.2.toNat).iF f.bP f.aD.toNat).cH 259 (f.cT.getD 0) (.i 0) 0
 | none=>x
def mU(x:X):Y (J×J)->X
 | []=>x
 | p::r=>mU (qR x p) r
def X.AY(x:X)(e:aQ)(ds:Y O):X:=
 {mU ((TS.gJ ⟨(x.fT x.R.length e).1,[],[]⟩ ds).x.cH 262 (x.fT x.R.length e).2 (.t (TS.gJ ⟨(x.fT x.R.length e).1,[],[]⟩ ds).iD) 0) (TS.gJ ⟨(x.fT x.R.length e).1,[],[]⟩ ds).dW with bH:=aE}
def Fr.same(f g:Fr):Prop:=g.bB=f.bB/\g.bP=f.bP/\g.aD=f.aD/\g.cT=f.cT
theorem Fr.mt'(f:Fr):f.same f.eW:=by
 unfold Fr.same Fr.eW;split;exact⟨rfl,rfl,rfl,rfl⟩
 ·rename_i h
  refine⟨rfl,rfl,?_,?_⟩;unfold Fr.aD;rfl;unfold Fr.cT;rfl
def pJ(x y:X):Prop:=y.aA.length=x.aA.length/\∀(k:O) f,x.aA[k]?=Z f->∃g,y.aA[k]?=Z g/\f.same g
theorem pJ.refl(x:X):pJ x x:=⟨rfl,λk f h=>⟨f,h,rfl,rfl,rfl,rfl⟩⟩
theorem pJ.trans{z:X}(p:pJ x y)(q:pJ y z):pJ x z:=⟨q.1.trans p.1,λk f h=>by
 obtain⟨g,hg,h1,h2,h3,h4⟩:=p.2 k f h;obtain⟨g',Bq,e1,e2,e3,e4⟩:=q.2 k g hg;exact⟨g',Bq,e1.trans h1,e2.trans h2,e3.trans h3,e4.trans h4⟩⟩
theorem pJ.of_eq(h:y.aA=x.aA):pJ x y:=⟨by rw[h],λk f hk=>⟨f,by rw[h];exact hk,rfl,rfl,rfl,rfl⟩⟩
set_option tactic.hygienic true in
theorem pJ.cC: pJ x (x.cC k):=by
 unfold X.cC;split
 ·rename_i f hf
  refine⟨by simp,λj g hj=>?_⟩;by_cases h:k=j
  ·subst h
   rw[hf]at hj;cases hj;exact⟨f.eW,jZ (iT.mp hf).1,f.mt'⟩
  ·exact⟨g,by show (x.aA.set k f.eW)[j]?=_;rw[kL h];exact hj,rfl,rfl,rfl,rfl⟩
 ·exact .refl _
structure uC(x:X)(dd:O):Prop where
 lt:dd<x.aA.length
 fK:∀f,x.aA[cO x dd]?=Z f->(∃l,f.cT=Z l)/\0<=f.aD/\f.aD.toNat<=x.R.length/\f.aD<=2
theorem uC.same(h:uC x dd)(s:pJ x y)(hl:y.R.length=x.R.length):uC y dd:=by
 refine⟨by rw[s.1];exact h.lt,λg hg=>?_⟩;have hx:cO y dd=cO x dd:=by unfold cO;rw[s.1]
 rw[hx]at hg;have cQ:cO x dd<x.aA.length:=n1 h.lt;obtain⟨g',Bq,h1,h2,h3,h4⟩:=s.2 _ _ (cS cQ);rw[hg]at Bq;cases Bq;have:=h.fK _ (cS cQ);rw[h3,h4,hl];exact this
set_option tactic.hygienic true in
theorem TS.K4: A7 (pJ t.x (t.step dd).x) (a.own (t.step dd).x=a.own t.x) ((t.step dd).x.size<=t.x.size+1) ((t.step dd).x.R=t.x.R) (t.x.aH.length<=(t.step dd).x.aH.length) ((t.step dd).iD.length<=t.iD.length+1) ((t.step dd).dW.length<=t.dW.length+1):=by
 unfold TS.step;split
 ·rename_i f hf
  obtain⟨z1,z2,z3,z4,z5⟩:=X.sI (x:=t.x) (k:=cO t.x dd);split;exact⟨.cC,N1,by rw[z1];lia,z2,by rw[z4];lia,by simp,nC _⟩
  ·split
   ·exact⟨.cC,N1,by rw[z1];lia,z2,by rw[z4];lia,by simp,nC _⟩
   ·refine⟨pJ.cC.trans (.of_eq rfl),N1,by rw[X.Ec,z1];lia,z2,?_,by simp,by simp⟩
    show _<=((t.x.cC _).aH++[-1]).length;rw[z4];simp
 ·exact⟨.refl _,rfl,by lia,rfl,by lia,by lia,by lia⟩
theorem UZ:∀{ps:Y (J×J)} {x:X} {p:J×J},mU x (ps++[p])=qR (mU x ps) p
 | [],x,p=>rfl
 | d::r,x,p=>by
  show mU (qR x d) (r++[p])=_;rw[UZ];rfl
theorem Im{l:Y α}{v:α}(h:l[k]?=Z v):l.take (k+1)=l.take k++[v]:=by rw[yw,h];rfl
theorem Sw{l m:Y (J×J)}{k:J}: nV (l++m) k=(nV l k).or (nV m k):=by
 unfold nV;rw[ya];cases l.find? (λe=>e.1==k) with
 | none=>rfl
 | some p=>rfl
def TS.Ok(t:TS)(ds:Y O):Prop:=∀p∈t.dW,(∃k∈ds,p.1=(k:J))/\(∃l:O,p.2=(l:J)/\l<t.x.aH.length)/\nV t.dW p.1=Z p.2
theorem TS.Ok.step(h:t.Ok ds)(hd:dd∈ds):(t.step dd).Ok ds:=by
 have nK:t.x.aH.length<=(t.step dd).x.aH.length:=(TS.K4 (a:=⟨0,0,0,0,0,0,0⟩)).5;have nL:(t.step dd).dW=t.dW\/(A3 (nV t.dW dd=aB) ((t.step dd).dW=t.dW++[((dd:J),(t.x.aH.length:J))]) (t.x.aH.length<(t.step dd).x.aH.length)):=by
  unfold TS.step;split
  ·split
   ·exact .inl rfl
   ·split
    ·exact .inl rfl
    ·rename_i F2
     refine .inr ⟨F2,rfl,?_⟩;show _<((t.x.cC _).aH++[-1]).length;rw[X.sI.4];simp
  ·exact .inl rfl
 intro p hp;rcases nL with q|⟨hn,q,cQ⟩
 ·rw[q]at hp ⊢
  obtain⟨h1,⟨l,h2,h3⟩,h4⟩:=h p hp;exact⟨h1,⟨l,h2,by lia⟩,h4⟩
 ·rw[q]at hp ⊢
  rcases oQ.mp hp with hp|hp
  ·obtain⟨h1,⟨l,h2,h3⟩,h4⟩:=h p hp
   exact⟨h1,⟨l,h2,by lia⟩,by rw[Sw,h4];rfl⟩
  ·cases iU.mp hp
   refine⟨⟨dd,hd,rfl⟩,⟨_,rfl,cQ⟩,?_⟩;rw[Sw];show (nV t.dW dd).or _=_;rw[hn];simp [nV]
theorem TS.qv(a:Ad):∀{es:Y O},(∀e∈es,e∈ds)->t.Ok ds->A8 (pJ t.x (t.gJ es).x) (a.own (t.gJ es).x=a.own t.x) ((t.gJ es).x.size<=t.x.size+es.length) ((t.gJ es).x.R=t.x.R) (t.x.aH.length<=(t.gJ es).x.aH.length) ((t.gJ es).iD.length<=t.iD.length+es.length) ((t.gJ es).dW.length<=t.dW.length+es.length) ((t.gJ es).Ok ds):=by
 intro es;induction es generalizing t with
 | nil=>exact λ_ ok=>⟨.refl _,rfl,cE _,rfl,cE _,cE _,cE _,ok⟩
 | cons e r ih=>
  intro lY ok;obtain⟨h1,h2,h3,h4,h5,h6,h7⟩:=TS.K4 (t:=t) (dd:=e) (a:=a);obtain⟨g1,g2,g3,g4,g5,g6,g7,g8⟩:=ih (t:=t.step e) (λe he=>lY e (tX _ he)) (ok.step (lY e vG));show A8 (pJ t.x ((t.step e).gJ r).x) _ _ _ _ _ _ _;refine⟨h1.trans g1,g2.trans h2,?_,g4.trans h4,aL h5 g5,?_,?_,g8⟩;show ((t.step e).gJ r).x.size<=_;exact TE h3 g3;show ((t.step e).gJ r).iD.length<=_;exact TE h6 g6;show ((t.step e).gJ r).dW.length<=_;exact TE h7 g7
set_option tactic.hygienic true in
theorem UY{p:J×J}(a:Ad):A5 (pJ x (qR x p)) (a.own (qR x p)=a.own x) (∀f,x.aA[cO x p.1.toNat]?=Z f->(qR x p).size<=x.size+f.aD.toNat+1) ((qR x p).R=x.R) ((qR x p).aH.length=x.aH.length):=by
 unfold qR;split
 ·rename_i f hf
  obtain⟨z1,z2,z3,z4,z5⟩:=X.sI (x:=x) (k:=cO x p.1.toNat);obtain⟨m1,m2,m3⟩:=X.zW (x:=(x.cC (cO x p.1.toNat)).dS p.2.toNat) (fh:=f.bP) (aD:=f.aD.toNat);have ml:=X.eg (x:=(x.cC (cO x p.1.toNat)).dS p.2.toNat) (fh:=f.bP) (aD:=f.aD.toNat);refine⟨pJ.cC.trans (.of_eq m2),?_,λg hg=>?_,m3.trans z2,?_⟩;exact (jH' (x:=x.cC (cO x p.1.toNat)) m2).trans N1
  ·rw[hf]at hg;cases hg
   rw[X.tJ];have:((x.cC (cO x p.1.toNat)).dS p.2.toNat).size=x.size:=by rw[<-z1];simp [X.dS,X.size]
   exact gP (this▸m1)
  ·show (X.iF _ _ _).aH.length=_
   rw[ml];show ((x.cC _).aH.set _ _).length=_;rw[mI,z4]
 ·exact⟨.refl _,rfl,λg hg=>by simp_all,rfl,rfl⟩
theorem rh{ps:Y (J×J)}(a:Ad)(hd:∀dd∈ds,uC x dd)(hp:∀p∈ps,∃dd∈ds,p.1=((dd:O):J)):∀k,A5 (pJ x (mU x (ps.take k))) (a.own (mU x (ps.take k))=a.own x) ((mU x (ps.take k)).size<=x.size+3*(ps.take k).length) ((mU x (ps.take k)).R=x.R) ((mU x (ps.take k)).aH.length=x.aH.length):=by
 intro k;induction k with
 | zero=>exact⟨.refl _,rfl,cE _,rfl,rfl⟩
 | succ k ih=>
  cases hk:ps[k]? with
  | none=>
   have h1:ps.take (k+1)=ps.take k:=by
    rw[yw,hk];simp
   rw[h1];exact ih
  | some p=>
   obtain⟨i1,i2,i3,i4,i5⟩:=ih;rw[Im hk,UZ];obtain⟨g1,g2,g3,g4,g5⟩:=UY (x:=mU x (ps.take k)) (p:=p) a;obtain⟨dd,ES,mQ⟩:=hp p (oF hk);have ok:=(hd dd ES).same i1 (by rw[i4]);refine⟨i1.trans g1,g2.trans i2,?_,g4.trans i4,g5.trans i5⟩;have cQ:cO (mU x (ps.take k)) p.1.toNat<(mU x (ps.take k)).aA.length:=n1 ok.lt;have g3':=g3 _ (cS cQ);obtain⟨_,m0,_,m2⟩:=ok.fK (mU x (ps.take k)).aA[cO (mU x (ps.take k)) p.1.toNat] (by
    rw[<-cS cQ,mQ];rfl)
   rw[bA,List.length_singleton];refine aL g3' (aL (dP (eN i3 (show _<=2 from E4.mpr m2)) 1) (cE _))
noncomputable def rN(ds:Y O):Y V:=ds.map λk:O=>.int k
theorem X.xZ{e:aQ}{h:J}: A4 ((x.fT h e).1.size<=x.size+1) ((x.fT h e).1.aA=x.aA) ((x.fT h e).1.R=x.R) ((x.fT h e).1.aH=x.aH):=by
 cases e with
 | num n=>exact⟨by show (x.cH _ _ _ _).size<=_;rw[X.tJ];lia,rfl,rfl,rfl⟩
 | pl s=>exact⟨nC _,rfl,rfl,rfl⟩
inductive aI where
 | const(n:J)|get (i:J)|set (i:J)|mF (i:J)|drop|kI|br (d:O)|gZ (d:O)|hO (ds:Y O)|ret|qS|pA
 | dX(op:J)|jQ|call|block (m:J)|loop (m:J)|iff (m:J)|dG|aS
noncomputable def aI.code:aI->J
 | .const _=>65 | .get _=>32 | .set _=>33 | .mF _=>34 | .drop=>26 | .kI=>27 | .br _=>12 | .gZ _=>13 | .hO _=>14 | .ret=>15 | .qS=>0 | .pA=>1
 | .dX op=>op | .jQ=>69 | .call=>16 | .block _=>2 | .loop _=>3 | .iff _=>4 | .dG=>5 | .aS=>11
def aI.more:aI->Y V
 | .const n=>[.int n] | .get n=>[.int n] | .set n=>[.int n] | .mF n=>[.int n] | .br d=>[.int d] | .gZ d=>[.int d] | .hO ds=>rN ds | .call=>[.int 0]
 | .block m=>[.int m] | .loop m=>[.int m] | .iff m=>[.int m]
 | _=>[]
def aI.v(i:aI):V:=.aM (.int i.code::i.more)
noncomputable def jL:Y J:=[106,107,108,115,118,70,73]
noncomputable def Arg.n:Arg->J
 | .i n=>n
 | .t _=>0
def Arg.GJ:Arg->Prop
 | .i _=>True
 | .t _=>False
namespace X
noncomputable def cD(x:X):aQ:=x.R.getLast?.getD (.num 0)
noncomputable def Cz:Fr:=⟨0,0,0,0,0,aB,aB,aB,aE⟩
def kE(x:X)(d:O):Fr:=x.aA[cO x d]?.getD Cz
def bF(x:X):Fr:=x.aA.getLast?.getD Cz
def MG(x:X)(d:O):X:=x.NZ (cO x d) (x.kE d) (x.kE d).aD.toNat ((x.kE d).cT.getD 0)
def Fg(y:X)(d:O)(t:J×Arg×J):X:=y.gZ (cO y d) (y.kE d) (y.kE d).aD.toNat ((y.kE d).cT.getD 0) t.1 t.2.1.n t.2.2
def rK(y:X)(t:J×Arg×J)(p:O×O)(bB:O):X:=y.DD t.1 t.2.1.n t.2.2 p.1 p.2 bB
def EM(x:X)(f:Fr):X:=x.Ac (x.aA.length-1) f (f.gE.getD 0) (f.eE.getD 0).toNat (f.bP+f.params).toNat
def Af(x:X)(f:Fr):X:=x.Cu f (f.gE.getD 0).toNat (f.bP+f.gS).toNat
def io(m:J):O×O:=(hZ m).getD (0,0)
def Ab(x:X)(i:aI)(bB:O):X:=match i with
 | .const n=>x.push (.num (n.fmod 4294967296))
 | .get i=>x.push (.pl i)
 | .set i=>x.pop.lM i x.cD
 | .mF i=>(x.pop.lM i x.cD).push (K8 i x.cD)
 | .drop=>x.pop
 | .kI=>x.kI x.cD
 | .br d=>x.MG d
 | .gZ d=>(x.pop.dC x.cD).1.Fg d (x.pop.dC x.cD).2
 | .hO ds=>x.pop.AY x.cD ds
 | .ret=>x.ret (x.aA[0]?.getD Cz).bP
 | .qS=> {x.cH 0 0 (.i 0) 0 with bH:=aE}
 | .pA=>x
 | .dX op=>x.pop.pop.dX op x.pop.cD x.cD
 | .jQ=>x.pop.eY 69 x.cD
 | .call=>x.call 0 2 2
 | .block m=>x.eG 2 (io m).1 (io m).2 bB
 | .loop m=>x.eG 3 (io m).1 (io m).2 bB
 | .iff m=>(x.pop.dC x.cD).1.rK (x.pop.dC x.cD).2 (io m) bB
 | .dG=>x.EM x.bF
 | .aS=>x.Af x.bF
def tT(x:X)(i:aI):aC:= !x.bH&&decide (x.cL>0) || !x.bH && !(i.code==5||(i.code==11||false))
def UQ(x:X)(i:aI):J:=if (i.code==2||(i.code==3||(i.code==4||false)))=u then x.cL+1 else if i.code=11 then x.cL-1 else x.cL
def skip(x:X)(i:aI):X:= {x with cL:=x.UQ i}
def take(x:X)(i:aI)(bB:O):X:=if x.tT i=u then x.skip i else x.Ab i bB
def Pl(x:X)(i:aI):Prop:=match i with
 | .set _ | .mF _ | .drop | .jQ=>1<=x.R.length
 | .kI=>3<=x.R.length
 | .dX op=>2<=x.R.length/\op∈jL
 | .call=>2<=x.R.length
 | .br d=>uC x d
 | .gZ d=>1<=x.R.length/\uC x.pop d/\(x.pop.dC x.cD).2.2.1.GJ
 | .hO ds=>1<=x.R.length/\(∀d∈ds,uC x.pop d)/\ds.length<=3
 | .ret=>2<=x.R.length/\1<=x.aA.length
 | .block m | .loop m=>(hZ m).isSome=u
 | .iff m=>1<=x.R.length/\(hZ m).isSome=u/\(x.pop.dC x.cD).2.2.1.GJ
 | .dG=>1<=x.aA.length/\x.bF.gE.isSome=u/\(∃el:O,x.bF.eE=Z (el:J)/\el<x.aH.length)/\0<=x.bF.bP+x.bF.params/\x.bF.bP+x.bF.params<1000
 | .aS=>1<=x.aA.length/\(∃fe:O,x.bF.gE=Z (fe:J)/\fe<x.aH.length)/\(∀l,x.bF.eE=Z l->0<=l/\l.toNat<x.aH.length)/\0<=x.bF.bP+x.bF.gS/\x.bF.bP+x.bF.gS<1000
 | _=>True
structure D3(x:X)(i:aI):Prop where
 size:x.size+x.R.length<90000
 bV:0<=x.bV
 nH:x.tT i=aE->x.Pl i
end X
theorem yC(h:1<=x.R.length):x.R.getLast? = Z x.cD:=by obtain⟨e,he⟩:=tL (l:=x.R) h;unfold X.cD;rw[he];rfl
def vZ(op:J):aC:=oM op [259,260,261]||(decide (4096<=op)&&decide (op<16384)||(decide (op≥20480)&&decide (op<28672)))
noncomputable def Arg.l:Arg->Y J
 | .i _=>[]
 | .t l=>l
def Arg.Sb:Arg->Prop
 | .i _=>False
 | .t _=>True
def dF.B7(r:dF):Y J:=if vZ r.op=u then [r.a] else if r.op=262 then r.b.l else []
noncomputable def wA(aH:Y J)(l:J):J:=aH[l.toNat]?.getD 0
def Ep(aP:Y dF)(aH:Y J)(xC:J):J:=match aP[xC.toNat]? with
 | some r=>if r.op=259 then wA aH r.a else xC
 | none=>xC
def En(aP:Y dF)(aH:Y J):O->J->J
 | 0,xC=>xC
 | n+1,xC=>Ep aP aH (En aP aH n xC)
def Df(aP:Y dF)(aH:Y J)(l:J):J:=En aP aH 8 (wA aH l)
def A9(aP:Y dF)(aH:Y J)(r:dF):dF:=
 if vZ r.op=u then {r with a:=Df aP aH r.a} else if r.op=262 then {r with b:=.t (r.b.l.map (Df aP aH))} else r
def BA(aP:Y dF)(aH:Y J):Y dF:=aP.map (A9 aP aH)
def HH(aH:Y J)(l:J):Prop:=0<=l/\∃p:O,aH[l.toNat]?=Z (p:J)
def Ch(aP:Y dF)(aH:Y J):Prop:=∀r∈aP,(∀l∈r.B7,HH aH l)/\(r.op=262->r.b.Sb/\r.b.l.length<1000)
namespace X
def wp(P:X->Prop):Y aI->X->Prop
 | [],x=>P x
 | i::r,x=>x.D3 i/\∀bB,wp P r (x.take i bB)
theorem AL{P:X->Prop}{s:Y aI}:∀{r:Y aI} {x:X},wp P (r++s) x↔wp (wp P s) r x
 | [],x=>Iff.rfl
 | i::r,x=>by
  show (_/\∀bB,wp P (r++s) _)↔(_/\∀bB,wp _ r _);simp only[AL]
noncomputable def gR:X:=⟨[],[],0,[],0,[],u,0⟩
end X
theorem Bl{T:Hp}{i:O}(h:H[i]?=Z o):(H++T)[i]?=Z o:=by rw[gO (Jw h)];exact h
class inductive iS:Y aI->Prop
 | nil:iS []
 | dI{a b:_}: iS a->iS b->iS (a++b)
 | plain{i:aI}: i.code≠2->i.code≠3->i.code≠4->i.code≠5->i.code≠11->iS [i]
 | uH{i:aI}{a:_}: (i.code=2\/i.code=3\/i.code=4)->iS a->iS (i::(a++[.aS]))
 | dG{m:J}{a b:_}: iS a->iS b->iS (.iff m::(a ++ .dG::(b++[.aS])))
noncomputable def wD:Y aI:=[.get 3,.const 1,.dX 118,.mF 3,.gZ 0]
def D6(h:aG O)(r:O):Prop:=h=Z r\/h=aB
class inductive dR:Y (O×aC)->aG O->Y aI->aG O->Prop
 | nil{L h:_}: dR L h [] h
 | dI{L h h1 h2 a b:_}: dR L h a h1->dR L h1 b h2->dR L h (a++b) h2
 | const{L h n:_}: dR L (Z h) [.const n] (Z (h+1))
 | get{L h i:_}: 0<=i->i<4->dR L (Z h) [.get i] (Z (h+1))
 | set{L h i:_}: 0<=i->i<3->dR L (Z (h+1)) [.set i] (Z h)
 | mF{L h i:_}: 0<=i->i<3->dR L (Z (h+1)) [.mF i] (Z (h+1))
 | drop{L h:_}: dR L (Z (h+1)) [.drop] (Z h)
 | kI{L h:_}: dR L (Z (h+3)) [.kI] (Z (h+1))
 | dX{L h op:_}: op∈jL->dR L (Z (h+2)) [.dX op] (Z (h+1))
 | jQ{L h:_}: dR L (Z (h+1)) [.jQ] (Z (h+1))
 | call{L h:_}: dR L (Z (h+2)) [.call] (Z (h+2))
 | pA{L h:_}: dR L (Z h) [.pA] (Z h)
 | gZ{L h d aD:_}: d<L.length->L[L.length-1-d]?=Z (aD,aE)->aD<=h->dR L (Z (h+1)) [.gZ d] (Z h)
 | br{L h d aD:_}: d<L.length->L[L.length-1-d]?=Z (aD,aE)->aD<=h->dR L (Z h) [.br d] aB
 | ret{L h:_}: 2<=h->dR L (Z h) [.ret] aB
 | qS{L h:_}: dR L (Z h) [.qS] aB
 | hO{L h ds:_}: ds.length=3->(∀d∈ds,d<L.length/\∃aD,L[L.length-1-d]?=Z (aD,aE)/\aD<=h)->dR L (Z (h+1)) [.hO ds] aB
 | zE{L a:_}: iS a->dR L aB a aB
 | block{L h m p r a h':_}: hZ m=Z (p,r)->dR (L++[(r,aE)]) (Z p) a h'->D6 h' r->dR L (Z (h+p)) (.block m::(a++[.aS])) (Z (h+r))
 | loop{L h m p a:_}: hZ m=Z (p,p)->dR (L++[(p,u)]) (Z p) a (Z p)->dR L (Z (h+p)) (.loop m::((a++wD)++[.aS])) (Z (h+p))
 | Sx{L h m p a:_}: hZ m=Z (p,p)->dR (L++[(p,u)]) (Z p) a aB->dR L (Z (h+p)) (.loop m::(a++[.aS])) (Z (h+p))
 | iff{L h m p a h':_}: hZ m=Z (p,p)->dR (L++[(p,aE)]) (Z p) a h'->D6 h' p->dR L (Z (h+p+1)) (.iff m::(a++[.aS])) (Z (h+p))
 | dG{L h m p r a h' b Ai:_}: hZ m=Z (p,r)->dR (L++[(r,aE)]) (Z p) a h'->D6 h' r->dR (L++[(r,aE)]) (Z p) b Ai->D6 Ai r->dR L (Z (h+p+1)) (.iff m::(a ++ .dG::(b++[.aS]))) (Z (h+r))
theorem iS.Ga:∀{a:Y aI},(∀i∈a,i.code≠2/\i.code≠3/\i.code≠4/\i.code≠5/\i.code≠11)->iS a
 | [],_=>.nil
 | i::r,h=>by
  obtain⟨h1,h2,h3,h4,h5⟩:=h i vG;exact .dI (.plain h1 h2 h3 h4 h5) (iS.Ga λj hj=>h j (tX _ hj))
theorem dR.vN{L h a h'}(s:dR L h a h'):iS a:=by
 induction s with
 | nil=>exact .nil
 | dI _ _ i1 i2=>exact .dI i1 i2
 | dX gX=>
  apply iS.plain<;>(intro q;simp only[aI.code]at q;subst q;revert gX;decide)
 | zE b=>exact b
 | block _ _ _ i1=>exact .uH (.inl rfl) i1
 | loop _ _ i1=>exact .uH (.inr (.inl rfl)) (.dI i1 (iS.Ga (by decide)))
 | Sx _ _ i1=>exact .uH (.inr (.inl rfl)) i1
 | iff _ _ _ i1=>exact .uH (.inr (.inr rfl)) i1
 | dG _ _ _ _ _ i1 i2=>exact .dG i1 i2
 | _=>exact .plain (by simp [aI.code]) (by simp [aI.code]) (by simp [aI.code]) (by simp [aI.code]) (by simp [aI.code])
noncomputable def jo(sa xC fA:O):bY:=.list [.ref sa,.int xC,.int fA]
def pL(code:Y aI):bY:=.list (code.map aI.v)
structure Po(H:Hp)(sc:Y J)(pa ba sa xC fA:O)(code:Y aI):Prop where
 pen:H[pa]?=Z (jo sa xC fA)
 body:H[ba]?=Z (pL code)
 scr:H[sa]?=Z (.list (sc.map .int))
 pb:pa≠ba
 sp:sa≠pa
 sb:sa≠ba
def yT(s:Y aI):Prop:=∀i∈s,(∃n,i= .const n)\/ ∃n,i= .get n/\0<=n/\n<3
theorem Po.new{code:Y aI}(g:Po H sc pa ba sa xC fA code){T:Hp}: Po (H++T) sc pa ba sa xC fA code:=
 ⟨Bl g.pen,Bl g.body,Bl g.scr,g.pb,g.sp,g.sb⟩
theorem yT.bL{L:Y (O×aC)}:∀{s:Y aI} {n:O},yT s->dR L (Z n) s (Z (n+s.length))
 | [],n,_=>.nil
 | i::r,n,h=>by
  have hr:dR L (Z (n+1)) r (Z (n+1+r.length)):=yT.bL (λj hj=>h j (tX _ hj));have e:n+(i::r).length=n+1+r.length:=by simp;lia
  rw[e];refine dR.dI (a:=[i]) ?_ hr;rcases h i vG with⟨k,rfl⟩|⟨k,rfl,h0,h3⟩
  exact .const;exact .get h0 (by lia)
structure qX(L:Y (O×aC)):Prop where
 pos:1<=L.length
 le:L.length<=5
 zero:L[0]?=Z (2,aE)
 aD:∀p∈L,p.1<=2
theorem qX.get(hk:k<L.length):EC (λaD b=>L[L.length-1-k]?=Z (aD,b)):=⟨_,_,cS (n1 hk)⟩
theorem qX.more{p:O×aC}(ok:qX L)(hl:L.length<5)(hp:p.1<=2):qX (L++[p]):=by
 refine⟨by simp,by simp;lia,?_,λq hq=>?_⟩;rw[gO ok.pos];exact ok.zero
 ·rcases oQ.mp hq with h|h
  exact ok.aD q h;rw[iU.mp h];exact hp
def WV(body:Y aI):Prop:=∃bL h',body=[.const 7,.set 3]++bL++[.aS]/\dR [(2,aE)] (Z 0) bL h'/\D6 h' 2/\bL.length<=230
end
section
variable{P:aC->Prop}{b:O->V->cA->aG cA}{c:aC}{es:Y aQ}{gK:V->Hp->(aG V->Hp->Prop)->Prop}{h h':Hp}{p q:Prop}{v:V}
noncomputable def DB(n:O):V:=.aM (kA n (.int (-1)))
def Ax(n m:O):V:=.aM [DB n,DB m]
def qM:Y V:=[Ax 0 0,Ax 0 1,Ax 1 1,Ax 2 1,Ax 1 2,Ax 2 2]
noncomputable def dy:bY:=.inst 13 [(17,.ref 1),(59,.ref 2),(60,.ref 3),(61,.ref 4),(62,.ref 5),(63,.ref 6),(64,.ref 7),(65,.none),(66,.ref 8),(67,.ref 9),(68,.ref 10)]
noncomputable def ar:bY:=.inst 11 [(55,.str "h"),(56,.str "f"),(57,.int 0),(58,.int 5)]
def Qu:bY:=.inst 12 [(18,.int 5),(20,DB 2),(39,.ref 13)]
def dT(B:Y V)(r:Hp):Hp:=dy:: .list qM:: .list [.ref 11]:: .list [.ref 12]:: .list []:: .list []:: .list []:: .list []:: .list []:: .list []:: .list []::ar::Qu:: .list B::r
namespace X
noncomputable def obj(x:X):bY:=.inst 10 [(15,.ref 0),(16,.ref 12),(19,.int 4),(8,.int 2),(4,.ref 18),(21,.ref 19),(22,.int x.bV),(23,.ref 20),(24,.int x.aF),(25,.ref 21),(26,.bool x.bH),(27,.int x.cL)]
def hp(B:Y V)(x:X)(r:Hp):Hp:=dT B (.list [.ref 3,.ref 4,.ref 5,.ref 6]:: .list [.int 5]:: .list [.int 5]::x.obj:: .list (x.aP.map dF.v):: .list (x.aH.map .int):: .list (x.R.map aQ.v):: .list ((fX x.aA.length).map λk=>.ref (k+22))::(x.aA.map Fr.o++r))
end X
theorem oS{l:O}(hz:xs.length<100000)(k:Q (.none,H.set l (.list (xs++[v])))):bZ (DJ l xs 0 [v] H) Q:=.of (pC (decide_eq_true (bT hz (by decide)))) k
theorem zT(f:α->β)(xs:Y α)(x:α):xs.map f++[f x]=(xs++[x]).map f:=by rw[kM];rfl
theorem tP{n:O}(h:k<n):kQ (k:J) n=Z k:=by unfold kQ;rw[aZ (eQ k),aZ (eZ.mpr h)];rfl
theorem Tx{n:O}: kQ (-1) (n+1)=Z n:=by unfold kQ;rw[aR (by decide),aZ (by lia)];exact aW Z (by rw[pX,LO (n:J)];exact aW xo (Int.neg_add_cancel_left 1 n))
theorem uS{Q:V->Prop}(hk:kQ i xs.length=Z k)(hv:xs[k]?=Z v)(q:Q v):bZ (BX xs i) Q:=.of ((pB hk).trans hv) q
abbrev Wf(sc:Y J)(d n:O)(args:Y V)(H:Hp)(Q:PE):Prop:=Bx (wF (cx sc) d n args H Q)
abbrev Cl(sc:Y J)(d:O):Call:=Js (cx sc) λn args h Q=>Bx (wF (cx sc) d n args h Q)
theorem cF{d n np nv:O}{b:Y bD}{Q:PE}(hk:(cx sc).kind n= .fn np nv b)(hl:hU args.length np=u)(h:bQ (cx sc) (Cl sc d) b (args.map Z++kA (nv-np) aB) H λfl _ h1=>Q (gT fl) h1):Wf sc (d+1) n args H Q:=by constructor;rw[U5];unfold Cl at h;simp only[U5]at h;show bZ (YW ((cx sc).kind n)) _;rw[hk];show cW (hU args.length np) _ _;rw[hl];exact h
theorem Ic{l:O}{Q:Hp->Prop}(e:H[l]?=Z (.list xs))(hk:kQ i xs.length=Z k)(q:Q (H.set l (.list (xs.set k v)))):bZ (Ib (.ref l) i v H) Q:=by refine .of (x:=H.set l (.list (xs.set k v))) ?_ q;show bE H[l]? _=_;rw[e];show bE (bE (kQ i xs.length) _) _=_;rw[hk];rfl
theorem oY(h:c=u)(k:p):cW c p q:=by rw[h];exact k
theorem mR(h:c=aE)(k:q):cW c p q:=by rw[h];exact k
section
variable{l:Y V}
variable{x:X}{B:Y V}{r:Hp}{Q:PE}
theorem X.qd(hz:x.size<99999):x.aP.length<99999:=cM (aL (bU _ _) (aL (bU _ _) (bU _ _))) hz
theorem X.nA'(hz:x.size<99999):x.aH.length<99999:=cM (aL (dL _ _) (aL (bU _ _) (bU _ _))) hz
theorem X.K2(hz:x.size<99999):x.R.length<99999:=cM (aL (dL _ _) (bU _ _)) hz
theorem Nh{f:α->β}{xs:Y α}(h:xs.length<99999):(xs.map f).length<100000:=by rw[cJ];exact bT h (by decide)
theorem uX(h:J)(k:Q (.int (4+h)) (x.hp B r)):Wf sc (d+1) 30 [.ref 17,.int h] (x.hp B r) Q:=cF rfl rfl k
theorem to{Q:Hp->Prop}(e:h=h')(k:Q h'):Q h:=e▸k
theorem LB{v':V}(ev:v=v')(eh:h=h')(k:Q v' h'):Q v h:=ev▸eh▸k
theorem NE{aP:Y dF}(e:l=aP.map dF.v):(x.hp B r).set 18 (.list l)=X.hp B {x with aP:=aP} r:=e▸rfl
theorem hpL(e:l=ls.map V.int):(x.hp B r).set 19 (.list l)=X.hp B {x with aH:=ls} r:=e▸rfl
theorem R0(e:l=es.map aQ.v):(x.hp B r).set 20 (.list l)=X.hp B {x with R:=es} r:=e▸rfl
theorem fS'(e:l=es.map aQ.v)(em:m=m'):((x.hp B r).set 20 (.list l)).set 17 (X.obj {x with aF:=m})=X.hp B {x with R:=es,aF:=m'} r:=e▸em▸rfl
theorem fR'(e:l=ls.map V.int)(em:m=m'):((x.hp B r).set 19 (.list l)).set 17 (X.obj {x with bV:=m})=X.hp B {x with aH:=ls,bV:=m'} r:=e▸em▸rfl
theorem kH{f:α->V}{xs:Y α}: ((xs.map f).length:J)=xs.length:=by rw[cJ]
theorem ct{f:α->V}{xs:Y α}: ((xs.map f++[v]).length:J)=(xs.length:J)+1:=by rw[bA,cJ];rfl
theorem mE(hz:x.size<99999)(op i:J)(b:Arg)(c:J)(k:Q .none ((x.cH op i b c).hp B r)):Wf sc (d+1) 29 [.ref 17,.int op,.int i,b.v,.int c] (x.hp B r) Q:=
 cF rfl rfl (oS (Nh (X.qd hz)) (to (Q:=Q .none) (NE (zT dF.v x.aP ⟨op,i,b,c⟩)) k))
theorem OO(hz:x.size<99999)(k:Q (.int x.aH.length) (x.cY.hp B r)):Wf sc (d+1) 27 [.ref 17] (x.hp B r) Q:=
 cF rfl rfl (oS (Nh (X.nA' hz)) (LB (Q:=Q) (aW V.int (by rw[ct];lia)) (hpL (zT V.int x.aH (-1))) k))
theorem IX{l:O}(hl:l<x.aH.length)(k:Q .none ((x.dS l).hp B r)):Wf sc (d+1) 28 [.ref 17,.int l] (x.hp B r) Q:=
 cF rfl rfl (Ic rfl (tP (by rw[cJ];exact hl)) (to (Q:=Q .none) (fR' (by rw[kH,I6]) kH) k))
theorem Gg(hz:x.size<99999)(e:aQ)(k:Q .none ((x.push e).hp B r)):Wf sc (d+1) 31 [.ref 17,e.v] (x.hp B r) Q:=
 cF rfl rfl (oS (Nh (X.K2 hz)) (to (Q:=Q .none) (fS' (m:=if ((x.R.map aQ.v++[e.v]).length:J)>x.aF then ((x.R.map aQ.v++[e.v]).length:J) else x.aF) (zT aQ.v x.R e) (by rw[ct])) k))
theorem Ei(hz:x.size<99999)(k:Q (.int (4+x.R.length)) (x.iJ.hp B r)):Wf sc (d+2) 32 [.ref 17] (x.hp B r) Q:=
 cF rfl rfl (uX _ (Gg (e:=.pl (4+((x.R.map aQ.v).length:J))) hz (by
  show Q (.int (4+((x.R.map aQ.v).length:J))) ((x.push (.pl (4+((x.R.map aQ.v).length:J)))).hp B r);rw[kH];exact k)))
end
section
variable{m:O}
theorem pD{l:O}(hv:xs.getLast? = Z v)(k:Q (v,H.set l (.list xs.dropLast))):bZ (DJ l xs 1 [] H) Q:=.of (pB hv) k
theorem GO{Q:PS}(n:O)(eV:O->cA->Hp->Prop)(j0:eV 0 I H)(aS:∀I H,eV n I H->nx n I H=Z aB/\Q .next I H)
  (gK:∀k I H,k<n->eV k I H->∀go:cA->Hp->Prop,(∀I H,eV (k+1) I H->go I H)->fQ (fun ρ1=>nx k I H=Z (Z ρ1)) (fun ρ1=>body ρ1 H (kJ go (zC go Q)))):oB (Ah nx body Q) (0,I,H):=by
 refine⟨n,λm s=>m+s.1=n/\eV s.1 s.2.1 s.2.2,⟨rfl,j0⟩,λm s hs=>?_⟩;obtain⟨k,I,H⟩:=s;obtain⟨h1,h2⟩:=hs;cases m with
 | zero=>
  rw[show k=n from (nQ k).symm.trans h1]at h2 ⊢;obtain⟨h3,h4⟩:=aS I H h2;exact .of h3 h4
 | succ m=>
  obtain⟨ρ1,h3,h4⟩:=gK k I H (h1▸PJ (BP m)) h2 (fun ρ' H'=>∃m',m'<m+1/\(m'+(k+1)=n/\eV (k+1) ρ' H')) λI H j=>⟨m,iB m,(Lc m k).symm.trans h1,j⟩;exact .of h3 h4
theorem gr{lo hi:J}(h:lo+k<hi)(e:b k (.int (lo+k)) I=Z ρ1):wK b (.gG lo hi) k I H=Z (Z ρ1):=by show bE (Z (if lo+k<hi then _ else _)) _=_;rw[aZ h];exact pB e
theorem gu{lo hi:J}(h: ¬ lo+k<hi):wK b (.gG lo hi) k I H=Z aB:=by show bE (Z (if lo+k<hi then _ else _)) _=_;rw[aR h];rfl
theorem Db{n:O}(h:n<1000000):jR (n:J)=u:=decide_eq_true (bT h (by decide))
theorem nL'{b:J}{n:O}(ea:a=m)(eb:b=n)(ha:m<1000000)(hb:n<1000000):(jR a&&jR b)=u:=by rw[ea,eb,Db ha,Db hb];rfl
theorem S6{t:O}{Q:PS}{lo hi:J}{b n:O}(elo:lo=b)(Qa:hi=(b+n:O))(eV:O->cA->Hp->Prop)(j0:eV 0 I H)(aS:∀I H,eV n I H->Q .next I H)
  (gK:∀k I H,k<n->eV k I H->∀go:cA->Hp->Prop,(∀I H,eV (k+1) I H->go I H)->body (I.set t (Z (.int (b+k:O)))) H (kJ go (zC go Q))):oB (Ah (wK (λ_ v I=>Z (I.set t (Z v))) (.gG lo hi)) body Q) (0,I,H):=by
 rw[elo,Qa];exact GO n eV j0 (λI H j=>⟨gu (LP _),aS I H j⟩) λk I H hk j go hg=>⟨_,gr (eZ.mpr (yO hk b)) rfl,gK k I H hk j go hg⟩
theorem Of{s n:O}(hz:s+n<m)(hk:k<n):s+k<m:=bT (yO hk s) hz
theorem kG'{b:J}(h:(jR a&&jR b)=u)(k:Q (.gG a b,H)):bZ (eU (jR a&&jR b) (Z (V.gG a b,H))) Q:=.of (pC h) k
theorem DX(h:jR a=u)(k:Q (.gG 0 a,H)):bZ (eU (jR a) (Z (V.gG 0 a,H))) Q:=.of (pC h) k
end
theorem X.UK{x:X}{h:O}{e:aQ}(he:x.R[h]?=Z e):x.iK h=(x.fS (4+h) e).BB h (.pl (4+h)):=by unfold X.iK;rw[he]
theorem pT{f:α->β}{xs:Y α}{x:α}(h:xs[k]?=Z x):(xs.map f)[k]?=Z (f x):=by rw[fJ,h];rfl
theorem nk'(f:α->β)(xs:Y α)(i:O)(a:α):(xs.map f).set i (f a)=(xs.set i a).map f:=by rw[I6]
theorem iN{xs:Y α}{x:α}(h:xs[k]?=Z x):k<xs.length:=(iT.mp h).1
theorem zS{f:α->β}{xs:Y α}(h:k<xs.length):kQ (k:J) (xs.map f).length=Z k:=tP (by rw[cJ];exact h)
section
variable{x:X}{B:Y V}{r:Hp}{Q:PE}
theorem AE{e:aQ}(he:x.R.getLast? = Z e)(k:Q e.v (x.pop.hp B r)):Wf sc (d+1) 33 [.ref 17] (x.hp B r) Q:=
 cF rfl rfl (pD (by rw[LW,he];rfl) (to (Q:=Q e.v) (R0 Du.symm) k))
theorem Ej(hz:x.size<99999)(iP:J)(e:aQ)(k:Q .none ((x.fS iP e).hp B r)):Wf sc (d+2) 34 [.ref 17,.int iP,e.v] (x.hp B r) Q:=by
 cases e with
 | num n=>exact cF rfl rfl (mE hz 257 iP (.i n) 0 k)
 | pl t=>
  have k:Q .none ((if t=iP then x else x.cH 256 iP (.i t) 0).hp B r):=k;by_cases ht:t=iP
  ·rw[aZ ht]at k
   exact cF rfl rfl (mR (by rw[ht];exact aW not (Ce iP)) k)
  ·rw[aR ht]at k
   exact cF rfl rfl (oY (aW not (jB.mpr ht)) (mE hz 256 iP (.i t) 0 k))
theorem Kw(hz:x.size<99999)(e:aQ)(h:J)(k:Q (.int (x.fT h e).2) ((x.fT h e).1.hp B r)):Wf sc (d+2) 35 [.ref 17,e.v,.int h] (x.hp B r) Q:=by
 cases e with
 | num n=>exact cF rfl rfl (uX h (mE hz 257 (4+h) (.i n) 0 (uX h k)))
 | pl t=>exact cF rfl rfl k
theorem nc(hz:x.size<99999){h:O}{i:J}{e:aQ}(ei:i=h)(he:x.R[h]?=Z e)(k:Q .none ((x.iK h).hp B r)):Wf sc (d+3) 36 [.ref 17,.int i] (x.hp B r) Q:=by rw[X.UK he]at k;rw[ei];exact cF rfl rfl (uX h (uS (zS (iN he)) (pT he) (Ej hz (4+h) e (uX h (Ic rfl (zS (by rw[X.Kq];exact iN he)) (to (Q:=Q .none) (R0 (nk' aQ.v (x.fS (4+h) e).R h (.pl (4+h)))) k))))))
theorem UC{aD:O}(em:m=aD)(hm:aD<=x.R.length)(hz:x.size+aD<99999)(k:Q (.int (4+(x.R.length-aD:O))) ((x.dB aD).hp B r)):Wf sc (d+4) 37 [.ref 17,.int m] (x.hp B r) Q:=by
 have hb:((x.R.map aQ.v).length:J)-m=(x.R.length-aD:O):=by rw[kH,em];exact (yJ hm).symm
 have hl:((x.R.map aQ.v).length:J)=(x.R.length-aD+aD:O):=by rw[kH,jH hm]
 have hs:=bT (X.K2 (cM (bU _ _) hz)) (by decide:99999<1000000);refine cF rfl rfl (kG' (nL' hb hl (cM (fW ..) hs) (cM (dH (jH hm)) hs)) (S6 hb hl (λk I h=>fQ (λv=>I=[Z (.ref 17),Z (.int m),Z (.int (((x.R.map aQ.v).length:J)-m)),v]) (λ_=>h=(x.sS (x.R.length-aD) k).hp B r)) ⟨_,rfl,rfl⟩ (λI h j=>?_) λn I h hn j go fL=>?_))
 ·obtain⟨v,e1,e2⟩:=j
  rw[e1,e2];exact uX _ (LB (Q:=Q) (aW (λi=>V.int (4+i)) hb) rfl k)
 ·obtain⟨v,e1,e2⟩:=j
  rw[e1,e2];exact nc (cM X.UM (Of hz hn)) rfl (cS (by rw[X.Gk];exact G3 (yO hn _) (jH hm))) (fL _ _ ⟨_,rfl,rfl⟩)
theorem UB(hz:x.size+x.R.length<99999)(k:Q .none ((x.dB x.R.length).hp B r)):Wf sc (d+5) 38 [.ref 17] (x.hp B r) Q:=
 cF rfl rfl (UC kH (cE _) hz k)
theorem lu{aD:O}(em:m=aD)(hm:aD<=x.R.length)(hz:x.size<99999)(k:Q .none ((x.jP aD).hp B r)):Wf sc (d+1) 39 [.ref 17,.int m] (x.hp B r) Q:=by
 have hs:=bT (X.K2 hz) (by decide:99999<1000000);refine cF rfl rfl (DX (em▸Db (cM hm hs)) (S6 (b:=0) rfl (em.trans (aW _ (nQ aD).symm)) (λk I h=>fQ (λv=>I=[Z (.ref 17),Z (.int m),v]) (λ_=>h=(x.jP k).hp B r)) ⟨_,rfl,rfl⟩ (λI h j=>?_) λn I h hn j go fL=>?_))
 ·obtain⟨v,e1,e2⟩:=j
  subst e1 e2;exact k
 ·obtain⟨v,e1,e2⟩:=j
  rw[e1,e2];obtain⟨e,he⟩:=tL (l:=(x.jP n).R) (by rw[X.Xo];exact Lb (eP hn hm));exact pD (v:=e.v) (by rw[LW,he];rfl) (fL _ _ ⟨_,rfl,R0 Du.symm⟩)
theorem OM(k:Q .none (({x with bH:=aE}: X).hp B r)):Wf sc (d+1) 49 [.ref 17] (x.hp B r) Q:=cF rfl rfl k
end
theorem W1{b:J}: (a==b)=decide (a=b):=by by_cases h:a=b;rw[decide_eq_true h];exact kB.mpr h;rw[FJ h];exact jB.mpr h
theorem ur{m:O}{e f:aQ}: pF e.v f.v (m+1)=Z (decide (e=f)):=by
 cases e with
 | num n=>cases f with
  | num k=>
   show Z ((n==k)&&u)=_;rw[LN,W1];exact aW Z (WD.mpr ⟨λh=>aW _ h,λh=>by cases h;rfl⟩)
  | pl k=>exact aW Z (FJ λq=>nomatch q).symm
 | pl n=>cases f with
  | num k=>exact aW Z (FJ λq=>nomatch q).symm
  | pl k=>
   show Z ((n==k)&&u)=_;rw[LN,W1];exact aW Z (WD.mpr ⟨λh=>aW _ h,λh=>by cases h;rfl⟩)
theorem qg'{m:O}:∀{fs:Y aQ},es.length=fs.length->lE (es.map aQ.v) (fs.map aQ.v) (m+1)=Z (decide (es=fs)):=by
 induction es with
 | nil=>
  intro fs h;rw[List.length_eq_zero_iff.mp h.symm];rfl
 | cons e es ih=>
  intro fs h;cases fs with
  | nil=>exact PP h
  | cons f fs=>
   show bE (pF e.v f.v (m+1)) _=_;rw[ur];show bE (lE (es.map aQ.v) (fs.map aQ.v) (m+1)) _=_;rw[ih (Vo h)];show Z (decide (e=f)&&decide (es=fs))=_;rw[<-Bool.decide_and];exact aW Z (WD.mpr List.cons_eq_cons.symm)
section
variable{Q:PE}{a:O}
theorem P3{b:aC}(k:P (c&&b)):cW c (P b) (P aE):=by cases c<;>exact k
theorem jF'{b:aC}(k:P (c||b)):cW c (P c) (P b):=by cases c<;>exact k
theorem fU(t:c=u->p)(f:c=aE->q):cW c p q:=by
 cases c with
 | true=>exact t rfl
 | false=>exact f rfl
theorem MU{e:aQ}{Q:aC->Prop}(k:Q (decide (e= .pl i))):bZ (xF G .Eq e.v (.aM [.int 0,.int i]) H) Q:=by cases e<;>exact .of (ur (m:=19) (f:=.pl i)) k
theorem YK(k:J)(es:Y (J×V)):(fR es k).isSome=oM k (es.map (·.1)):=by
 induction es with
 | nil=>rfl
 | cons e r ih=>
  unfold fR at ih ⊢;rw[c7]at ih ⊢;rw[VU];show _=(k==e.1||oM k (r.map (·.1)));rw[BEq.comm,<-ih];cases k==e.1<;>rfl
theorem TT(e:H[a]?=Z (.list xs))(hv:xs[k]?=Z v)(hb:b k v I=Z ρ1):wK b (.ref a) k I H=Z (Z ρ1):=by show bE (bE (bE H[a]? qN) _) _=_;rw[e];show bE (Z xs[k]?) _=_;rw[hv];exact pB hb
theorem TU(e:H[a]?=Z (.list xs))(hv:xs.length<=k):wK b (.ref a) k I H=Z aB:=by show bE (bE (bE H[a]? qN) _) _=_;rw[e];show bE (Z xs[k]?) _=_;rw[lF hv];rfl
theorem QP{it:V}(n:O)(item:O->V)(g:O->aG V)(h1:∀k,k<n->zY it k H=Z (Z (item k)))(h2:zY it n H=Z aB)(hz:n<aF)
  (ht:∀k q,k<n->q (g k) H->gK (item k) H q) (k:Q (.ref H.length) (H++[.list ((fX n).filterMap g)])):oB (Aa gK it Q) (0,[],H):=by
 refine⟨n,λm s=>m+s.1=n/\s.2.1=(fX s.1).filterMap g/\s.2.2=H,⟨rfl,rfl,rfl⟩,λm s hs=>?_⟩;obtain⟨j,acc,h⟩:=s;obtain⟨e1,e2,e3⟩:=hs;have e2:acc=(fX j).filterMap g:=e2;have e3:h=H:=e3;rw[e3];cases m with
 | zero=>
  have ej:j=n:=(nQ j).symm.trans e1;rw[ej]at e2 ⊢;rw[e2];exact .of h2 k
 | succ m=>
  have hj:j<n:=e1▸PJ (BP m);have en:=(Lc m j).symm.trans e1;refine .of (h1 j hj) (ht j _ hj ?_);have er:(fX (j+1)).filterMap g=acc++(match g j with|some v=>[v]|none=>[]):=by
   rw[I8,xy,e2,LV,xz];cases g j<;>rfl
  cases hg:g j with
  | none=>
   rw[hg]at er;exact⟨m,iB m,en,(pH acc).symm.trans er.symm,rfl⟩
  | some v=>
   rw[hg]at er;refine⟨?_,m,iB m,en,er.symm,rfl⟩;show acc.length<aF;rw[e2];exact cM (Vb ..) (by rw[pI];exact bT hj hz)
theorem XX{n:O}(g:O->V)(eh:hi=n)(hz:n<1000000)(ht:∀(k:O) q,k<n->q (Z (g k)) H->gK (.int k) H q)(k:Q (.ref H.length) (H++[.list ((fX n).map g)])):oB (Aa gK (.gG 0 hi) Q) (0,[],H):=by
 rw[eh];refine QP n (λk=>.int k) (λk=>Z (g k)) (λk hk=>?_) ?_ (bT hz (by decide)) ht ?_
 ·show Z (if (0:J)+k<n then Z (V.int (0+k)) else aB)=_
  rw[I2,aZ (eZ.mpr hk)]
 ·show Z (if (0:J)+n<n then Z (V.int (0+n)) else aB)=_
  rw[I2,aR (LP _)]
 ·rw[List.filterMap_eq_map'];exact k
end
section
variable{x:X}{B:Y V}{r:Hp}{Q:PE}
theorem lz'(k:Q (.bool (SZ op)) H):Wf sc (d+1) 18 [.int op] H Q:=cF rfl rfl (P3 (P:=λb=>Q (.bool b) H) k)
theorem me(k:Q (.bool (GI op)) H):Wf sc (d+1) 19 [.int op] H Q:=cF rfl rfl (P3 (P:=λb=>cW b (Q (.bool b) H) (Q (.bool (op==209)) H)) (jF' (P:=λb=>Q (.bool b) H) k))
theorem RH(h:(oM op Mi||(oM op Nc||SZ op))=u):tN op=u:=by unfold tN;rw[h];rfl
theorem lr'(k:Q (.bool (tN op)) H):Wf sc (d+2) 20 [.int op] H Q:=by
 refine cF rfl rfl (fU (λh=>oY h ?_) λh=>fU (λh2=>oY h2 ?_) λh2=>lz' (fU (λh3=>?_) λh3=>P3 (P:=λb=>Q (.bool b) H) ?_));rw[RH (by rw[show oM op Mi=u from h];rfl)]at k;exact k
 ·have h2:oM op Nc=u:=(YK op _).symm.trans h2
  rw[RH (by rw[h2,Bool.true_or,Ox])]at k;exact k
 ·rw[RH (by rw[h3,Ox,Ox])]at k;exact k
 ·have h2:oM op Nc=aE:=(YK op _).symm.trans h2
  have e:tN op=(decide (16384<=op)&&decide (op<20480)):=by
   unfold tN;rw[show oM op Mi=aE from h,h2,h3];rfl
  rw[e]at k;exact k
end
end
section
variable{x:X}{B:Y V}{r:Hp}
theorem eA{o:bY}: (H++[o])[H.length]?=Z o:=by rw[oP (cE _),qB];rfl
theorem lH{o o':bY}{i:O}(h:H[i]?=Z o):(H++[o'])[i]?=Z o:=(gO (iN h)).trans h
theorem Ht{o:bY}: x.hp B r++[o]=x.hp B (r++[o]):=by unfold X.hp;rw[<-fB];rfl
theorem Zj{f:Fr}(h:x.aA[k]?=Z f):(x.hp B r)[k+22]?=Z f.o:=by show (x.aA.map Fr.o++r)[k]?=_;rw[gO (by rw[cJ];exact iN h)];exact pT h
def Fr.Bh(f:Fr):Y (O×V):=[(9,.int f.code),(10,.int f.bP),(6,.int f.params),(8,.int f.gS),(11,oV f.gE),(12,oV f.Fe),(13,oV f.eE),(14,.bool f.used)]
theorem zJ{a:O}{f:Fr}{v:V}{Q:V->Prop}(h:x.aA[k]?=Z f)(hd:(cx sc).qF 9 a=u)(hv:lW f.Bh a=Z v)(q:Q v):bZ (HM (cx sc) (.ref (k+22)) a (x.hp B r)) Q:=by refine .of (x:=v) ?_ q;show bE (bE (x.hp B r)[k+22]? B3) _=_;rw[Zj h];exact (pC hd).trans hv
theorem OX{l b:O}(e:H[l]?=Z (.list xs))(eb:i=b)(hb:b<=xs.length)(k:Q (.ref H.length,H++[.list (xs.drop b)])):bZ (Ig (.ref l) (.int i) .none H) Q:=by refine .of (x:=(.ref H.length,H++[.list (xs.drop b)])) ?_ k;show bE (bE H[l]? qN) _=_;rw[e,eb];show bE (eU (decide ((0:J)<=b)&&decide ((b:J)<=xs.length)) (Z (b:J).toNat)) _=_;rw[decide_eq_true (eQ b),decide_eq_true (fV.mpr hb)];show Z (Ee H ((xs.take xs.length).drop b))=_;rw[CV];rfl
theorem dY'{i:O}{es fs:Y aQ}{Q:aC->Prop}(hi:H[i]?=Z (.list (es.map aQ.v)))(hj:H[j]?=Z (.list (fs.map aQ.v)))(k:Q (decide (es=fs))):bZ (xF G .Eq (.ref i) (.ref j) H) Q:=by refine .of (x:=decide (es=fs)) ?_ k;show bE (bE H[i]? qN) (λxs=>bE (bE H[j]? qN) λys=>if xs.length=ys.length then lE xs ys 20 else Z aE)=_;rw[hi,hj];show (if (es.map aQ.v).length=(fs.map aQ.v).length then lE (es.map aQ.v) (fs.map aQ.v) 20 else Z aE)=_;rw[cJ,cJ];by_cases h:es.length=fs.length;rw[aZ h];exact qg' h;rw[aR h,FJ λq=>h (aW _ q)]
theorem GP{t:O}{Q:PS}{n:O}(Qa:hi=n)(eV:O->cA->Hp->Prop)(j0:eV 0 I H)(aS:∀I H,eV n I H->Q .next I H)
  (gK:∀k I H,k<n->eV k I H->∀go:cA->Hp->Prop,(∀I H,eV (k+1) I H->go I H)->body (I.set t (Z (.int (k:O)))) H (kJ go (zC go Q))):oB (Ah (wK (λ_ v I=>Z (I.set t (Z v))) (.gG 0 hi)) body Q) (0,I,H):=
 S6 (b:=0) rfl (Qa.trans (aW _ (nQ n).symm)) eV j0 aS λk I H hk j go hg=>(aW (λi:O=>body (I.set t (Z (.int i))) H (kJ go (zC go Q))) (nQ k)).mpr (gK k I H hk j go hg)
end
namespace X
variable{x:X}
theorem nl(h:(x.gA i k).R[k]?=Z (.pl i)):x.gA i (k+1)=(x.gA i k).iK k/\x.AF i (k+1)=x.AF i k+1:=⟨aZ h,aZ h⟩
theorem nk(h:(x.gA i k).R[k]?≠Z (.pl i)):x.gA i (k+1)=x.gA i k/\x.AF i (k+1)=x.AF i k:=⟨aR h,aR h⟩
theorem iE'{b:O}{e:aQ}(h:x.R[b+k]?=Z e):x.rM b i (k+1)=(x.rM b i k).fS (4+(i+k)) e:=by show (match x.R[b+k]? with|some e=>_|none=>_)=_;rw[h]
end X
section
variable{x:X}{B:Y V}{r:Hp}{Q:PE}
theorem mj'(hz:x.size+x.R.length<99999)(aY:J)(q:Q (.int (x.AF aY x.R.length)) ((x.gA aY x.R.length).hp B r)):Wf sc (d+4) 40 [.ref 17,.int aY] (x.hp B r) Q:=by
 refine cF rfl rfl (GO x.R.length (λk I h=>AV (λv w=>I=[Z (.ref 17),Z (.int aY),Z (.int (x.AF aY k)),v,w]) (λ_ _=>h=(x.gA aY k).hp B r)) ⟨_,_,rfl,rfl⟩ (λI h j=>?_) λn I h hn j go fL=>?_)
 ·obtain⟨v,w,e1,e2⟩:=j
  rw[e1,e2];exact⟨TU rfl (by rw[cJ,X.Gh];exact cE _),q⟩
 ·obtain⟨v,w,e1,e2⟩:=j
  rw[e1,e2];have he:=cS (l:=(x.gA aY n).R) (i:=n) (by rw[X.Gh];exact hn);refine⟨_,TT rfl (pT he) rfl,MU (fU (λh=>?_) λh=>?_)⟩
  ·obtain⟨h1,h2⟩:=X.nl (he.trans (aW Z (fY h)))
   exact nc (cM X.OS (Of hz hn)) rfl he (fL _ _ ⟨_,_,by rw[h2];rfl,by rw[h1]⟩)
  ·obtain⟨h1,h2⟩:=X.nk (λz=>AQ h (aT (he.symm.trans z)))
   exact fL _ _ ⟨_,_,by rw[h2];rfl,by rw[h1]⟩
theorem fQ'{n:O}: (fX n).map (λ(k:O)=>(aQ.pl (4+(k:J))).v)=(X.eB n).map aQ.v:=by unfold X.eB;rw[Gy];rfl
theorem nh{n:O}(em:m=n)(hn:n<1000000)(q:Q (.ref (x.hp B r).length) (x.hp B (r++[.list ((X.eB n).map aQ.v)]))):Wf sc (d+2) 41 [.ref 17,.int m] (x.hp B r) Q:=
 cF rfl rfl (DX (em▸Db hn) (XX (λk=>(aQ.pl (4+(k:J))).v) em hn (λk q hk hq=>uX _ hq) (to (Q:=Q _) (Ht.trans (aW (λl=>x.hp B (r++[.list l])) fQ')) q)))
theorem mf{aD:O}{f:Fr}(hk:x.aA[k]?=Z f)(em:m=aD)(hm:aD<=x.R.length)(hz:x.size<99999)(q:∀g,Q (.bool (x.Eb f.bP aD)) (x.hp B (r++g))):Wf sc (d+2) 46 [.ref 17,.ref (k+22),.int m] (x.hp B r) Q:=by have hn:=cM hm (bT (X.K2 hz) (by decide:99999<1000000));refine cF rfl rfl (DX (em▸Db hn) (XX (λk=>(aQ.pl (4+(f.bP+(k:J)))).v) em hn (λk q nI hq=>zJ hk rfl rfl (uX _ hq)) (OX (b:=x.R.length-aD) rfl (by rw[kH,em];exact (yJ hm).symm) (by rw[cJ];exact fW ..) (dY' (es:=x.R.drop (x.R.length-aD)) (fs:=(fX aD).map λ(k:O)=>.pl (4+(f.bP+(k:J)))) (by rw[<-yk];exact eA) (lH (by rw[Gy];exact eA)) ?_))));exact to (Q:=Q _) ((aW (· ++ _) Ht).trans (Ht.trans (aW (X.hp B x) (fB ..)))) (q _)
theorem lA'{aD:O}{f:Fr}(hk:x.aA[k]?=Z f)(em:m=aD)(hm:aD<=x.R.length)(hz:x.size<99999)(q:∀r',Q (.bool (x.Eb f.bP aD)) (x.hp B r')):Wf sc (d+2) 46 [.ref 17,.ref (k+22),.int m] (x.hp B r) Q:=mf hk em hm hz λ_=>q _
theorem OQ{aD:O}{f:Fr}(hk:x.aA[k]?=Z f)(em:m=aD)(hm:aD<=x.R.length)(hz:x.size+aD<99999)(q:Q .none ((x.iF f.bP aD).hp B r)):Wf sc (d+3) 47 [.ref 17,.ref (k+22),.int m] (x.hp B r) Q:=by
 have hb:((x.R.map aQ.v).length:J)-m=(x.R.length-aD:O):=by rw[kH,em];exact (yJ hm).symm
 have hs:=bT (X.K2 (cM (bU _ _) hz)) (by decide:99999<1000000);refine cF rfl rfl (DX (em▸Db (cM hm hs)) (GP em (λn I h=>fQ (λv=>I=[Z (.ref 17),Z (.ref (k+22)),Z (.int m),Z (.int (((x.R.map aQ.v).length:J)-m)),v]) (λ_=>h=(x.rM (x.R.length-aD) f.bP n).hp B r)) ⟨_,rfl,rfl⟩ (λI h j=>?_) λn I h hn j go fL=>?_))
 ·obtain⟨v,e1,e2⟩:=j
  subst e1 e2;exact q
 ·obtain⟨v,e1,e2⟩:=j
  rw[e1,e2];have hl:x.R.length-aD+n<x.R.length:=G3 (yO hn _) (jH hm);have he:=cS hl;refine zJ (k:=k) (f:=f) (by rw[X.DQ];exact hk) rfl rfl (uX _ (uS (k:=x.R.length-aD+n) (v:=(x.R[x.R.length-aD+n]).v) ?_ (by rw[X.Nk];exact pT he) (Ej (cM X.TK (Of hz hn)) (4+(f.bP+n)) _ (fL _ _ ⟨_,rfl,by rw[X.iE' he]⟩))));rw[hb,X.Nk];exact zS hl
end
def Od(t:J×Arg×J):V:=.aM [.int t.1,t.2.1.v,.int t.2.2]
section
variable{x:X}{B:Y V}{r:Hp}
theorem AW{t f k:Prop}(hf:b=aE->f)(hk:b=u->k):cW (!b) (cW b t f) k:=by
 cases b with
 | false=>exact hf rfl
 | true=>exact hk rfl
theorem Ed{g:α->V}{xs:Y α}{v:α}{Q:V->Prop}(h:xs.getLast? = Z v)(q:Q (g v)):bZ (BX (xs.map g) (-1)) Q:=by rw[CU]at h;obtain⟨n,hn⟩:=Vi (rU (cM (nD _) (iN h)));rw[hn]at h;exact uS (k:=n) (by rw[cJ,hn];exact Tx) (pT h) q
theorem TG{g:α->β}{xs:Y α}{v:α}(h:xs.getLast? = Z v):(xs.map g).getLast? = Z (g v):=by rw[LW,h];rfl
end
namespace X
variable{y:X}{e:aQ}{rr:dF}
theorem Qz(h:∀rr,y.aP.getLast? = Z rr->e= .pl (4+y.R.length)->(y.aP.length:J)>y.bV->rr.a=4+y.R.length->False):y.qH e=aB:=by
 cases hF:y.qH e with
 | none=>rfl
 | some rr=>
  obtain⟨h1,h2,h3,h4⟩:=Bk.mp hF;exact (h rr h1 h2 h3 h4).elim
theorem eJ'(h:GI op=u):pO op=u:=by unfold pO;rw[h];rfl
theorem eK'(h1:decide (16384<=op)=u)(h2:decide (op<20480)=u)(h3:GI (op-16384)=u):pO op=u:=by unfold pO;rw[h1,h2,h3];exact Ox _
theorem Qy(h:GI op=aE)(h2:decide (16384<=op)=aE\/decide (op<20480)=aE\/GI (op-16384)=aE):pO op=aE:=by
 unfold pO;rw[h];rcases h2 with h2|h2|h2<;>rw[h2]
 rfl;rw[U9];rfl;rw[U9];rfl
theorem dw'(h:y.qH e=aB):y.dC e=(y,eJ e):=by unfold dC;rw[h]
theorem dv'(h:y.qH e=Z rr)(hf:pO rr.op=aE):y.dC e=(y,eJ e):=by unfold dC;rw[h];exact aR λz=>E1 (hf.symm.trans z)
theorem dz'(h:y.qH e=Z rr)(hf:pO rr.op=u):y.dC e=({y with aP:=y.aP.dropLast},(rr.op,rr.b,rr.c)):=by unfold dC;rw[h];exact aZ hf
end X
section
variable{x:X}{B:Y V}{r:Hp}{Q:PE}
theorem lq{e:aQ}(he:x.R.getLast? = Z e)(hf:0<=x.bV)(q:Q (Od (x.pop.dC e).2) ((x.pop.dC e).1.hp B r)):Wf sc (d+2) 43 [.ref 17] (x.hp B r) Q:=by
 have no:x.pop.qH e=aB->Q (Od (X.eJ e)) (x.pop.hp B r):=λh=>by rw[X.dw' h]at q;exact q
 refine cF rfl rfl (AE he (uX _ (MU (AW (λh=>?_) λh=>AW (λh2=>?_) λh2=>?_))))
 ·have:=no (X.Qz λrr _ h2 _ _=>AQ h (h2.trans (by rw[kH])))
  cases e<;>exact this
 ·have:=no (X.Qz λrr _ _ h3 _=>AQ h2 (by rw[kH];exact h3))
  cases e<;>exact this
 have h:=fY h;have h2:=fY h2;rw[kH]at h h2;obtain⟨rr,hr⟩:=tL (l:=x.pop.aP) (eZ.mp (qV hf h2));refine Ed hr (fU (λh3=>Ed hr ?_) λh3=>?_)
 ·have h3:rr.a=4+x.pop.R.length:=(kB.mp h3).trans (by rw[kH])
  have hF:x.pop.qH e=Z rr:=Bk.mpr ⟨hr,h,h2,h3⟩;have yes:X.pO rr.op=u->Q (.aM [.int rr.op,rr.b.v,.int rr.c]) ((({x.pop with aP:=x.pop.aP.dropLast}):X).hp B r):=λh=>by rw[X.dz' hF h]at q;exact q
  have nf:X.pO rr.op=aE->Q (Od (X.eJ e)) (x.pop.hp B r):=λh=>by rw[X.dv' hF h]at q;exact q
  clear q no h2 h3 hF h;refine me (fU (λh4=>oY h4 (pD (TG hr) (to (Q:=Q _) (NE Du.symm) (yes (X.eJ' h4))))) λh4=>fU (λh5=>AW (λh6=>?_) λh6=>me (fU (λh7=>pD (TG hr) (to (Q:=Q _) (NE Du.symm) (yes (X.eK' h5 h6 h7)))) λh7=>?_)) λh5=>?_)
  ·have:=nf (X.Qy h4 (.inr (.inl h6)))
   cases e<;>exact this
  ·have:=nf (X.Qy h4 (.inr (.inr h7)))
   cases e<;>exact this
  ·have:=nf (X.Qy h4 (.inl h5))
   cases e<;>exact this
 ·have:=no (X.Qz λlj e1 _ _ h4=>by
   rw[aT (hr.symm.trans e1)]at h3;exact E1 (h3.symm.trans (kB.mpr (h4.trans (by rw[kH])))))
  cases e<;>exact this
end
namespace X
variable{x y:X}{e:aQ}{rr:dF}{n:J}
theorem kj'{s:J}: (y.fS s e).bV=y.bV:=by
 cases e with
 | num n=>rfl
 | pl t=>
  show (if t=s then y else y.cH 256 s (.i t) 0).bV=_;by_cases h:t=s;rw[aZ h];rw[aR h];rfl
theorem nn'{h:O}: (y.iK h).bV=y.bV:=by
 cases he:y.R[h]? with
 | none=>unfold iK;rw[he]
 | some e=>rw[UK he];exact kj'
theorem mu': (x.gA i k).bV=x.bV:=by
 induction k with
 | zero=>rfl
 | succ k ih=>
  by_cases h:(x.gA i k).R[k]?=Z (.pl i);rw[(nl h).1,nn',ih];rw[(nk h).1,ih]
theorem kg'(h:∀rr,n=0->y.qH e=Z rr->tN rr.op=aE):y.uV n i e=y.fS i e:=by
 unfold uV;by_cases hn:n=0
 ·rw[aZ hn]
  cases hF:y.qH e with
  | none=>rfl
  | some rr=>exact aR λz=>E1 ((h rr hn hF).symm.trans z)
 ·rw[aR hn]
theorem ki'(hn:n=0)(hF:y.qH e=Z rr)(h:tN rr.op=u):y.uV n i e=({y with aP:=y.aP.dropLast}: X).cH rr.op i rr.b rr.c:=by unfold uV;rw[aZ hn,hF];exact aZ h
end X
section
variable{x:X}{B:Y V}{r:Hp}{Q:PE}
theorem UA(hz:x.size+x.R.length<99998)(aY:J)(e:aQ)(hf:0<=x.bV)(q:Q .none ((x.lM aY e).hp B r)):Wf sc (d+5) 42 [.ref 17,.int aY,e.v] (x.hp B r) Q:=by
 unfold X.lM at q;have hy:(x.gA aY x.R.length).size<99998:=cM X.OS hz;have KJ:0<=(x.gA aY x.R.length).bV:=by rw[X.mu'];exact hf
 refine cF rfl rfl (mj' (bT hz (by decide)) aY (uX _ ?_));generalize x.gA aY x.R.length=y at q hy KJ ⊢;generalize x.AF aY x.R.length=n at q ⊢;have H0:y.size<99999:=bT hy (by decide);have no:(∀rr,n=0->y.qH e=Z rr->tN rr.op=aE)->Q .none ((y.fS aY e).hp B r):=λh=>by rw[X.kg' h]at q;exact q
 refine fU (λh=>oY h (mR (by cases hn:n==0 with|false=>rfl|true=>exact nomatch (aW not hn).symm.trans h) (Ej H0 aY e (no λrr h1 _=>?_)))) λh=>AW (λh1=>Ej H0 aY e (no λrr _ hF=>?_)) λh1=>MU (AW (λh2=>Ej H0 aY e (no λrr _ hF=>?_)) λh2=>?_)
 ·rw[h1]at h
  exact absurd h (by decide)
 exact (AQ h1 (by rw[kH];exact (Bk.mp hF).2.2.1)).elim;exact (AQ h2 ((Bk.mp hF).2.1.trans (by rw[kH]))).elim;have hn:n=0:=kB.mp ((Bool.not_not _).symm.trans (aW not h));have h1:=fY h1;have h2:=fY h2;rw[kH]at h1 h2;obtain⟨rr,hr⟩:=tL (l:=y.aP) (eZ.mp (qV KJ h1));refine Ed hr (lr' (AW (λh3=>Ej H0 aY e (no λlj _ hF=>?_)) λh3=>Ed hr (fU (λh4=>pD (TG hr) (to (Q:=λh=>Wf sc (d+4) 29 _ h _) (NE Du.symm) (mE ?_ rr.op aY rr.b rr.c ?_))) λh4=>Ej H0 aY e (no λlj _ hF=>?_))));rw[<-aT (hr.symm.trans (Bk.mp hF).1)];exact h3;exact cM (by unfold X.size;rw[iR];exact dP (dP (dP (fW ..) _) _) _) H0
 ·rw[X.ki' hn (Bk.mpr ⟨hr,h2,h1,(kB.mp h4).trans (by rw[kH])⟩) h3]at q
  exact q
 ·have e1:=(Bk.mp hF).2.2.2
  rw[<-aT (hr.symm.trans (Bk.mp hF).1)]at e1;exact (E1 (h4.symm.trans (kB.mpr (e1.trans (by rw[kH]))))).elim
end
section
variable{x:X}{B:Y V}{r:Hp}{f:Fr}
theorem fY'(hk:k<x.aA.length):(x.hp B r).set (k+22) f.o=X.hp B (x.jY k f) r:=by
 have e:(x.aA.map Fr.o++r).set k f.o=(x.aA.set k f).map Fr.o++r:=by rw[yv _ _ (by rw[cJ];exact hk),I6]
 have e2:(x.aA.set k f).length=x.aA.length:=mI;unfold X.jY X.hp;dsimp only;rw[e2,<-e];rfl
theorem Mc{a:O}{g:Fr}{v:V}{Q:Hp->Prop}(h:x.aA[k]?=Z f)(hd:(cx sc).qF 9 a=u)(hv:bY.inst 9 (uM f.Bh a v)=g.o)(q:Q ((x.jY k g).hp B r)):bZ (Ia (cx sc) (.ref (k+22)) a v (x.hp B r)) Q:=by rw[<-fY' (iN h),<-hv]at q;refine .of ?_ q;show bE (bE (x.hp B r)[k+22]? B3) _=_;rw[Zj h];exact pC hd
theorem zQ:(x.hp B r).length=x.aA.length+r.length+22:=by show (x.aA.map Fr.o++r).length+22=_;rw[bA,cJ]
theorem kl'{n:O}(h:k<n):(fX n)[k]?=Z k:=rT h
theorem YZ{Q:V->Prop}(hi:i=k)(hk:k<x.aA.length)(q:Q (.ref (k+22))):bZ (BX ((fX x.aA.length).map λk=>V.ref (k+22)) i) Q:=by rw[hi];exact uS (zS (by rw[pI];exact hk)) (pT (kl' hk)) q
end
section
variable{x:X}{B:Y V}{r:Hp}{Q:PE}
theorem T7(hz:x.size<99999)(op n c:J)(uZ:aC){s cY:J}(es:s=if uZ then 1 else 0)(q:Q .none ((x.mO op n c uZ cY).hp B r)):Wf sc (d+2) 44 [.ref 17,Od (op,.i n,c),.int s,.int cY] (x.hp B r) Q:=by
 rw[es];unfold X.mO at q;refine cF rfl rfl (fU (λh=>?_) λh=>fU (λh2=>?_) λh2=>?_)
 ·rw[aZ (kB.mp h)]at q
  cases uZ with
  | false=>exact fU (λh2=>by rw[aZ (show ((n != 0)==aE)=u from h2)]at q;exact mE hz 259 cY (.i 0) 0 q) λh2=>by rw[aR (rS.mp (show ((n != 0)==aE)=aE from h2))]at q;exact q
  | true=>exact fU (λh2=>by rw[aZ (show ((n != 0)==u)=u from h2)]at q;exact mE hz 259 cY (.i 0) 0 q) λh2=>by rw[aR (rS.mp (show ((n != 0)==u)=aE from h2))]at q;exact q
 ·rw[aR (jB.mp h),aZ (kB.mp h2)]at q
  cases uZ<;>exact mE hz _ cY (.i n) 0 q
 rw[aR (jB.mp h),aR (jB.mp h2)]at q;have yes:(op=69\/op=80)->Q .none ((x.cH (if uZ then 261 else 260) cY (.i n) 0).hp B r):=λh=>by rw[aZ h]at q;exact q
 refine fU (λh3=>oY h3 ?_) λh3=>fU (λh4=>?_) λh4=>?_
 ·have q:=yes (.inl (kB.mp h3))
  cases uZ<;>exact mE hz _ cY (.i n) 0 q
 ·have q:=yes (.inr (kB.mp h4))
  cases uZ<;>exact mE hz _ cY (.i n) 0 q
 rw[aR λz=>z.elim (jB.mp h3) (jB.mp h4)]at q;refine fU (λh5=>?_) λh5=>?_
 ·rw[aZ (fY h5)]at q
  cases uZ<;>exact mE hz _ cY (.i n) c q
 ·rw[aR (AQ h5)]at q
  cases uZ<;>exact mE hz _ cY (.i n) c q
theorem X.eZ'{f:Fr}(hk:x.aA[k]?=Z f):x.cC k=x.jY k f.eW:=by unfold X.cC;rw[hk];rfl
theorem X.pP'{f:Fr}(hk:x.aA[k]?=Z f):x.jY k f=x:=by
 have e:x.aA.set k f=x.aA:=yM λj=>by
  by_cases h:k=j;rw[<-h,jZ (iN hk),hk];rw[kL h]
 unfold X.jY;rw[e]
theorem lq'{depth:O}{f:Fr}(em:m=depth)(hk:x.aA[k]?=Z f)(hd:k+depth+1=x.aA.length)(q:Q (.aM [.ref (k+22),.int f.aD,oV f.cT]) ((x.cC k).hp B r)):Wf sc (d+1) 45 [.ref 17,.int m] (x.hp B r) Q:=by
 rw[X.eZ' hk]at q;refine cF rfl rfl (YZ (by rw[em,kH,pI,<-hd];lia) (iN hk) (zJ hk rfl rfl (fU (λh=>?_) λh=>?_)))
 ·have h:=kB.mp h
  unfold Fr.aD Fr.cT Fr.eW at q;rw[aZ h,aZ h,aZ h,X.pP' hk]at q;exact zJ hk rfl rfl (zJ hk rfl rfl q)
 ·have h:=jB.mp h
  unfold Fr.aD Fr.cT Fr.eW at q;rw[aR h,aR h,aR h]at q;have nI:(x.jY k {f with used:=u}).aA[k]?=Z {f with used:=u}:=jZ (iN hk);exact Mc hk rfl rfl (zJ nI rfl rfl (zJ nI rfl rfl q))
end
section
variable{Q:Hp->Prop}{a:O}{v:V}
variable{x:X}{B:Y V}{r:Hp}{f:Fr}
theorem pU{c:O}(hd:G.qF c a=u)(q:Q (H++[.inst c (uM fs a v)])):bZ (Ia G (.ref H.length) a v (H++[.inst c fs])) Q:=by refine .of (x:=H++[.inst c (uM fs a v)]) ?_ q;show bE (bE (H++[bY.inst c fs])[H.length]? B3) _=_;rw[eA];refine (pC hd).trans (aW Z ?_);rw[E9 _ _ (cE _),qB];rfl
theorem gf:(x.hp B [f.o])[x.aA.length+22]?=Z f.o:=by show (x.aA.map Fr.o++[f.o])[x.aA.length]?=_;rw[<-cJ (f:=Fr.o)];exact eA
theorem iM'{l:O}{Q:V->Prop}(hl:l=x.aA.length+22)(hd:(cx sc).qF 9 a=u)(hv:lW f.Bh a=Z v)(q:Q v):bZ (HM (cx sc) (.ref l) a (x.hp B [f.o])) Q:=by rw[hl];refine .of (x:=v) ?_ q;show bE (bE (x.hp B [f.o])[x.aA.length+22]? B3) _=_;rw[gf];exact (pC hd).trans hv
theorem gh{l:O}{g:Fr}(hl:l=x.aA.length+22)(hd:(cx sc).qF 9 a=u)(hv:bY.inst 9 (uM f.Bh a v)=g.o)(q:Q (x.hp B [g.o])):bZ (Ia (cx sc) (.ref l) a v (x.hp B [f.o])) Q:=by
 rw[hl];have e:(x.hp B [f.o]).set (x.aA.length+22) g.o=x.hp B [g.o]:=by
  have:(x.aA.map Fr.o++[f.o]).set x.aA.length g.o=x.aA.map Fr.o++[g.o]:=by
   rw[E9 _ _ (by rw[cJ];exact cE _),cJ,qB];rfl
  unfold X.hp;rw[<-this];rfl
 rw[<-e,<-hv]at q;refine .of ?_ q;show bE (bE (x.hp B [f.o])[x.aA.length+22]? B3) _=_;rw[gf];exact pC hd
theorem Zk{l:O}(hl:l=x.aA.length+22):(x.hp B [f.o]).set 21 (.list (((fX x.aA.length).map λk=>V.ref (k+22))++[.ref l]))=(x.yZ f).hp B []:=by
 have e:((fX x.aA.length).map λk=>V.ref (k+22))++[.ref l]=(fX (x.aA++[f]).length).map λk=>V.ref (k+22):=by
  rw[bA,hl];show _=(fX (x.aA.length+1)).map _;rw[I8,kM];rfl
 have e2:(x.aA++[f]).map Fr.o++[]=x.aA.map Fr.o++[f.o]:=by rw[pH,kM];rfl
 unfold X.yZ X.hp;dsimp only;rw[e2,<-e];rfl
end
section
variable{code:J}
variable{x:X}{B:Y V}{r:Hp}{Q:PE}
theorem ma'{h p n:J}(q:Q .none (x.hp B [(⟨0,code,h,p,n,aB,aB,aB,aE⟩:Fr).o])):Wf sc (d+1) 25 [.ref (x.hp B []).length,.int code,.int h,.int p,.int n] (x.hp B []++[.inst 9 []]) Q:=
 cF rfl rfl (pU rfl (pU rfl (pU rfl (pU rfl (pU rfl (pU rfl (pU rfl (pU rfl (to (Q:=Q .none) (Ht (o:=(⟨0,code,h,p,n,aB,aB,aB,aE⟩:Fr).o)) q)))))))))
theorem mq(ei:(x.aH.length:J)=i)(hz:x.size<99999)(k:Q (.int i) (x.cY.hp B r)):Wf sc (d+1) 27 [.ref 17] (x.hp B r) Q:=OO hz (ei▸k)
theorem T8{ps rs:Y V}(hz:x.size+x.R.length<99990)(q:Q (.ref (x.aA.length+22)) ((x.eG code ps.length rs.length 0).hp B [])):Wf sc (d+6) 48 [.ref 17,.int code,.aM [.aM ps,.aM rs]] (x.hp B []) Q:=by
 unfold X.eG at q;have hy:(x.dB x.R.length).size<99990:=cM X.AH hz;rw[<-X.sR (n:=x.R.length)]at q;refine cF rfl rfl (UB (bT hz (by decide)) ?_);generalize x.dB x.R.length=y at q hy ⊢;have hl:(y.hp B []).length=y.aA.length+22:=zQ;have hlz:y.cY.size<99999:=by rw[X.Ec];exact cM hy (by decide)
 have jT:∀z:X,z.aA=y.aA->((fX z.aA.length).map λk=>V.ref (k+22)).length<100000:=λz hz=>by
  rw[cJ,pI,hz];exact cM (dL ..) (bT hy (by decide))
 refine ma' ⟨rfl,OO (bT hy (by decide)) (gh (g:=⟨0,code,((y.R.map aQ.v).length:J)-ps.length,ps.length,rs.length,Z y.aH.length,aB,aB,aE⟩) hl rfl rfl (fU (λh=>?_) λh=>?_))⟩
 ·have e1:(y.cY.aH.length:J)=(y.aH.length+1:O):=aW _ (bA ..)
  unfold X.DT at q;rw[aZ (kB.mp h)]at q;refine mq e1 hlz (gh (g:=⟨0,code,((y.R.map aQ.v).length:J)-ps.length,ps.length,rs.length,Z y.aH.length,Z (y.aH.length+1:O),aB,aE⟩) hl rfl rfl (iM' hl rfl rfl (IX ?_ (oS (jT _ rfl) (LB (Q:=Q) (aW V.ref hl) (Zk hl) ?_)))))
  ·show _<((y.aH++[-1])++[-1]).length
   rw[bA,bA];exact iB _
  ·rw[kH];exact q
 ·unfold X.DT at q
  rw[aR (jB.mp h)]at q;exact oS (jT _ rfl) (LB (Q:=Q) (aW V.ref hl) (Zk hl) (by rw[kH];exact q))
end
namespace X
variable{x:X}
theorem Tz{n:O}(h:x.size+x.R.length<n):x.pop.size+x.pop.R.length<n:=by refine cM (eN pE ?_) h;show x.R.dropLast.length<=_;rw[iR];exact fW ..
theorem qc{n m:O}(h:x.size+x.R.length<n)(hm:n<=m):x.size<m:=eP (cM (bU ..) h) hm
end X
section
variable{x:X}{B:Y V}{r:Hp}{Q:PE}{e:aQ}
theorem le'(he:x.R.getLast? = Z e)(q:Q .none (x.pop.hp B r)):Wf sc (d+2) 64 [.ref 17,iv] (x.hp B r) Q:=cF rfl rfl (AE he q)
theorem lS'(hz:x.size<99999)(i:J)(q:Q .none ((x.push (.pl i)).hp B r)):Wf sc (d+2) 66 [.ref 17,.aM [.int 32,.int i]] (x.hp B r) Q:=cF rfl rfl (Gg hz (.pl i) q)
theorem ld'(hz:x.size<99999)(i:J)(q:Q .none ((x.push (.num (i.fmod 4294967296))).hp B r)):Wf sc (d+2) 69 [.ref 17,.aM [.int 65,.int i]] (x.hp B r) Q:=cF rfl rfl (Gg hz (.num (i.fmod 4294967296)) q)
theorem mb'(q:Q .none (x.hp B r)):Wf sc (d+1) 52 [.ref 17,iv] (x.hp B r) Q:=cF rfl rfl q
theorem mq'(hz:x.size<99999)(q:Q .none (({x.cH 0 0 (.i 0) 0 with bH:=aE}: X).hp B r)):Wf sc (d+2) 53 [.ref 17,iv] (x.hp B r) Q:=cF rfl rfl (mE hz 0 0 (.i 0) 0 (OM q))
theorem lT'(he:x.R.getLast? = Z e)(hz:x.size+x.R.length<99990)(i:J)(hf:0<=x.bV)(q:Q .none ((x.pop.lM i e).hp B r)):Wf sc (d+6) 67 [.ref 17,.aM [.int 33,.int i]] (x.hp B r) Q:=
 cF rfl rfl (AE he (UA (X.Tz (bT hz (by decide))) i e hf q))
theorem lU'(he:x.R.getLast? = Z e)(hz:x.size+x.R.length<99990)(i:J)(hf:0<=x.bV)(q:Q .none (((x.pop.lM i e).push (K8 i e)).hp B r)):Wf sc (d+6) 68 [.ref 17,.aM [.int 34,.int i]] (x.hp B r) Q:=by
 have hb:=X.Tz hz;have h2:(x.pop.lM i e).size<99999:=cM X.A2.1 (eP (tZ hb) (by decide));cases e with
 | num n=>exact cF rfl rfl (AE he (UA (bT hb (by decide)) i _ hf (Gg h2 (.num n) q)))
 | pl s=>exact cF rfl rfl (AE he (UA (bT hb (by decide)) i _ hf (Gg h2 (.pl i) q)))
theorem me'{n:O}(em:m=n)(hz:x.size+n<99999)(q:Q .none ((x.AC n).hp B r)):Wf sc (d+3) 62 [.ref 17,.int m] (x.hp B r) Q:=by
 refine cF rfl rfl (DX (em▸Db (bT (cM (dL ..) hz) (by decide))) (GP em (λk I h=>fQ (λv=>I=[Z (.ref 17),Z (.int m),v]) (λ_=>h=(x.AC k).hp B r)) ⟨_,rfl,rfl⟩ (λI h j=>?_) λn I h hn j go fL=>?_))
 ·obtain⟨v,e1,e2⟩:=j
  subst e1 e2;exact q
 ·obtain⟨v,e1,e2⟩:=j
  rw[e1,e2];exact Ei (by rw[X.OC.1];exact Of hz hn) (fL _ _ ⟨_,rfl,rfl⟩)
theorem mc'(he:x.R.getLast? = Z e)(hz:x.size<99990)(op:J)(q:Q .none ((x.pop.eY op e).hp B r)):Wf sc (d+3) 70 [.ref 17,.aM [.int op]] (x.hp B r) Q:=by have h1:x.pop.size<99990:=cM X.pE hz;have h2:(x.pop.fT x.pop.R.length e).1.size<99991:=cM X.xZ.1 (tZ h1);refine cF rfl rfl (AE he (Kw (bT h1 (by decide)) e ((x.pop.R.map aQ.v).length:J) ?_));rw[kH];exact Ei (bT h2 (by decide)) (mE (by rw[X.Eh];exact bT (tZ h2) (by decide)) op _ (.i _) 0 q)
end
namespace X
variable{x:X}{code:J}{a b:aQ}
theorem Uo(h:(a.xR && !b.xR&&oM code Iq)=aE):x.dX code a b=((x.fT x.R.length a).1.iJ).cH (if b.xR then 16384+code else code) (4+(x.fT x.R.length a).1.R.length) (.i (x.fT x.R.length a).2) b.n:=aR λz=>E1 (h.symm.trans z)
theorem pM'(h:(a.xR && !b.xR&&oM code Iq)=u):x.dX code a b=x.iJ.cH (16384+code) (4+x.R.length) (.i b.n) a.n:=aZ h
end X
section
variable{x:X}{B:Y V}{r:Hp}{Q:PE}{e:aQ}{f:Fr}{depth aD:O}{cT:J}
theorem mp'{e2 e1:aQ}(pN:x.R.getLast? = Z e2)(he1:x.pop.R.getLast? = Z e1)(hz:x.size<99990)(code:J)(q:Q .none ((x.pop.pop.dX code e1 e2).hp B r)):Wf sc (d+3) 71 [.ref 17,.aM [.int code]] (x.hp B r) Q:=by
 have h1:x.pop.pop.size<99990:=cM X.pE (cM X.pE hz);have h2:(x.pop.pop.fT x.pop.pop.R.length e1).1.size<99991:=cM X.xZ.1 (tZ h1);have h3:=bT h1 (by decide:99990<99999);have h4:=bT h2 (by decide:99991<99999);have h5:(x.pop.pop.fT x.pop.pop.R.length e1).1.iJ.size<99999:=by rw[X.Eh];exact bT (tZ h2) (by decide)
 refine cF rfl rfl (AE pN (AE he1 ?_));cases e1 with
 | pl t=>
  rw[X.Uo rfl]at q;refine Kw h3 (.pl t) ((x.pop.pop.R.map aQ.v).length:J) ?_;rw[kH];cases e2 with
  | num b=>exact Ei h4 (mE h5 _ _ (.i _) _ q)
  | pl b=>exact Ei h4 (mE h5 _ _ (.i _) _ q)
 | num a=>
  cases e2 with
  | num b=>
   rw[X.Uo rfl]at q;refine Kw h3 (.num a) ((x.pop.pop.R.map aQ.v).length:J) ?_;rw[kH];exact Ei h4 (mE h5 _ _ (.i _) _ q)
  | pl b=>
   refine fU (λh=>?_) λh=>?_
   ·rw[X.pM' (a:=.num a) (b:=.pl b) h]at q
    exact Ei h3 (mE (by rw[X.Eh];exact bT (tZ h1) (by decide)) (16384+code) _ (.i b) a q)
   ·rw[X.Uo (a:=.num a) (b:=.pl b) h]at q
    refine Kw h3 (.num a) ((x.pop.pop.R.map aQ.v).length:J) ?_;rw[kH];exact Ei h4 (mE h5 _ _ (.i _) _ q)
theorem ON(em:m=depth)(hk:x.aA[k]?=Z f)(hd:k+depth+1=x.aA.length)(hm:f.aD=aD)(hl:f.cT=Z cT)(q:Q (.aM [.ref (k+22),.int aD,.int cT]) ((x.cC k).hp B r)):Wf sc (d+1) 45 [.ref 17,.int m] (x.hp B r) Q:=
 lq' em hk hd (by rw[hm,hl];exact q)
theorem kW'(hk:x.aA[k]?=Z f)(hd:k+depth+1=x.aA.length)(hm:f.aD=aD)(hl:f.cT=Z cT)(hs:aD<=x.R.length)(hz:x.size+aD<99990)(q:Q .none ((x.NZ k f aD cT).hp B r)):Wf sc (d+4) 58 [.ref 17,.aM [.int 12,.int depth]] (x.hp B r) Q:=by have hg:=X.sI (x:=x) (k:=k);refine cF rfl rfl (ON rfl hk hd hm hl (OQ (f:=f.eW) (Fu hk) rfl (by rw[hg.2];exact hs) (by rw[hg.1];exact bT hz (by decide)) ?_));rw[Fr.HZ.2];exact mE (cM X.zW.1 (by rw[hg.1];exact bT hz (by decide))) 259 cT (.i 0) 0 (OM q)
theorem mg'(hk:x.aA[0]?=Z f)(hs:2<=x.R.length)(hz:x.size<99980)(q:Q .none ((x.ret f.bP).hp B r)):Wf sc (d+4) 61 [.ref 17,iv] (x.hp B r) Q:=
 cF rfl rfl (YZ (k:=0) rfl (iN hk) (OQ (aD:=2) hk rfl hs (eP (sX hz 2) (by decide)) (uX _ (mE (cM X.zW.1 (eP (sX hz 2) (by decide))) 267 4 (.i 2) 0 (OM q)))))
theorem kX'{n:J}(he:x.R.getLast? = Z e)(hf:0<=x.bV)(ht:(x.pop.dC e).2=(op,.i n,c))(hk:x.aA[k]?=Z f)(hd:k+depth+1=x.aA.length)(hm:f.aD=aD)(hl:f.cT=Z cT)(hs:aD<=x.pop.R.length)(hz:x.size+aD<99990)
  (q:∀r',Q .none (((x.pop.dC e).1.gZ k f aD cT op n c).hp B r')):Wf sc (d+4) 59 [.ref 17,.aM [.int 13,.int depth]] (x.hp B r) Q:=by
 have hc:=X.Fj (x:=x.pop) (e:=e);have lJ:(x.pop.dC e).1.size+aD<99990:=cM (dP (aL hc.1 X.pE) _) hz;rw[<-hc.3]at hs;rw[show x.aA=(x.pop.dC e).1.aA from hc.2.symm]at hk hd;refine cF rfl rfl (lq he hf ?_);rw[ht];generalize (x.pop.dC e).1=y at q lJ hs hk hd ⊢;have hg:=X.sI (x:=y) (k:=k);have M3:(y.cC k).size+aD<99990:=by rw[hg.1];exact lJ
 have M4:(y.cC k).size<99990:=cM (bU ..) M3;have hb:=X.EJ (x:=(y.cC k).cY) (op:=op) (n:=n) (c:=c) (s:=aE) (l:=(y.cC k).aH.length);have Bm:((y.cC k).cY.mO op n c aE (y.cC k).aH.length).size+aD<99999:=by
  have:=hb.1;rw[X.Ec]at this;exact cM (dP this _) (cM (dH (hS _ 2 aD)) (eP (sX M3 2) (by decide)))
 refine ON rfl hk hd hm hl (lA' (f:=f.eW) (Fu hk) rfl (by rw[hg.2];exact hs) (bT M4 (by decide)) λr'=>?_);unfold X.gZ at q;dsimp only at q;rw[Fr.HZ.2];refine fU (λh=>?_) λh=>?_
 ·rw[aZ h]at q
  exact T7 (bT M4 (by decide)) op n c u rfl (q r')
 ·rw[aR (rS.mp h)]at q
  refine OO (bT M4 (by decide)) (T7 (by rw[X.Ec];exact bT (tZ M4) (by decide)) op n c aE rfl (OQ (f:=f.eW) (by rw[hb.2];exact Fu hk) rfl (by rw[hb.3];show aD<=(y.cC k).R.length;rw[hg.2];exact hs) Bm ?_));rw[Fr.HZ.2];refine mE (cM X.zW.1 Bm) 259 cT (.i 0) 0 (IX ?_ (q r'));show _<(X.iF _ _ _).aH.length;rw[X.eg,hb.4];show _<((y.cC k).aH++[-1]).length;rw[bA];exact iB _
end
section
variable{a:O}
variable{x:X}{B:Y V}{r:Hp}
theorem fV'{g:Hp}: x.hp B r++g=x.hp B (r++g):=by unfold X.hp;rw[<-fB];rfl
theorem pR(e:H[a]?=Z (.list xs))(q:Q (.int xs.length,H)):bZ (Fi G .len [.ref a] H) Q:=by refine .of (x:=(.int xs.length,H)) ?_ q;show bE (bE H[a]? qN) _=_;rw[e];rfl
theorem HK{i:O}(hi:H[i]?=Z (.list xs))(hj:H[j]?=Z (.list ys))(hz:decide (xs.length+ys.length<=aF)=u)(q:Q (.ref H.length,H++[.list (xs++ys)])):bZ (Ba .Add (.ref i) (.ref j) H) Q:=by refine .of (x:=(.ref H.length,H++[.list (xs++ys)])) ?_ q;show bE (bE H[i]? qN) (λxs=>bE (bE H[j]? qN) λys=>eU (decide (xs.length+ys.length<=aF)) (Z (Ee H (xs++ys))))=_;rw[hi,hj];exact pC hz
theorem rJ{v:V}{Q:V->Prop}(e:H[a]?=Z (.list xs))(hk:kQ i xs.length=Z k)(hv:xs[k]?=Z v)(q:Q v):bZ (Au G (.ref a) i H) Q:=by refine .of (x:=v) ?_ q;show bE H[a]? _=_;rw[e];exact (pB hk).trans hv
end
section
variable{x:X}{B:Y V}{r:Hp}{Q:PE}
theorem ll(q:Q (.ref (dT B r).length) (dT B r++[.list [.int 5]])):Wf sc (d+1) 79 [.ref 0,.int 0] (dT B r) Q:=
 cF rfl rfl (QP 1 (λ_=>.ref 11) (λ_=>Z (.int 5)) (λk hk=>by rw[PL.mp hk];rfl) rfl (by decide) (λk q _ hq=>hq) q)
theorem md(q:Q (.int 1) (dT B r++[.list [.int 5]])):Wf sc (d+2) 78 [.ref 0,.int 0] (dT B r) Q:=
 cF rfl rfl (ll (pR eA q))
theorem lm'(q:Q (.ref ((dT B r).length+2)) (dT B r++[.list [.int 5],.list [.int 5],.list [.int 5,.int 5]])):Wf sc (d+2) 80 [.ref 0] (dT B r) Q:=by refine cF rfl rfl (ll (QP 1 (λ_=>.ref 12) (λ_=>Z (.int 5)) (λk hk=>by rw[PL.mp hk];rfl) rfl (by decide) (λk q _ hq=>hq) (HK (lH eA) eA rfl ?_)));refine LB (Q:=Q) ?_ ?_ q;rw[bA,bA];rfl;rw[fB,fB];rfl
theorem lG'(q:∀g,Q (Ax 2 2) (dT B r++g)):Wf sc (d+3) 83 [.ref 0,.int 0] (dT B r) Q:=
 cF rfl rfl (lm' (rJ (k:=0) (xs:=[.int 5,.int 5]) (v:=.int 5) (by
  rw[oP (bU ..),wQ];rfl) rfl rfl (q _)))
end
section
variable{x:X}{B:Y V}{r:Hp}{Q:PE}{e:aQ}
theorem ln{n:O}(h:hZ m=Z (n,k))(q:Q (Ax n k) (dT B r)):Wf sc (d+1) 16 [.ref 1,.int m] (dT B r) Q:=by revert q;exact TH (P:=λm n k=>Q (Ax n k) (dT B r)->Wf sc (d+1) 16 [.ref 1,.int m] (dT B r) Q) h (λq=>cF rfl rfl q) (λq=>cF rfl rfl q) (λq=>cF rfl rfl q) (λq=>cF rfl rfl q) (λq=>cF rfl rfl q) λq=>cF rfl rfl q
theorem lm{code:J}{n:O}(h:hZ m=Z (n,k))(hz:x.size+x.R.length<99990)(q:Q .none ((x.eG code n k 0).hp B [])):Wf sc (d+7) 54 [.ref 17,.aM [.int code,.int m]] (x.hp B []) Q:=
 cF rfl rfl (ln h (T8 hz (by rw[BL,BL];exact q)))
theorem lH'(q:∀r',Q (Ax 2 2) (x.hp B r')):Wf sc (d+3) 83 [.ref 0,.int 0] (x.hp B r) Q:=
 lG' λg=>to (Q:=Q _) fV' (q _)
theorem lb'(hs:2<=x.R.length)(hz:x.size<99980)(q:∀r',Q .none ((x.call 0 2 2).hp B r')):Wf sc (d+6) 63 [.ref 17,.aM [.int 16,.int 0]] (x.hp B r) Q:=by have h1:(x.dB 2).size<99982:=cM X.AH (sX hz 2);have h2:((x.dB 2).jP 2).size<99982:=cM X.Jo h1;exact cF rfl rfl (lH' λr'=>UC (aD:=2) rfl hs (eP (sX hz 2) (by decide)) (lu (aD:=2) rfl (by rw[X.Gj];exact hs) (bT h1 (by decide)) (mE (bT h2 (by decide)) 263 0 (.i _) 0 (me' (n:=2) rfl (by rw[X.tJ];exact eP (sX (tZ h2) 2) (by decide)) (q r')))))
end
namespace X
variable{x:X}{s n:J}
theorem mW'{e:aQ}(h:e= .pl (4+((x.R.length:J)+1))):x.uY e=(x.fS (4+x.R.length) e).push (.pl (4+x.R.length)):=aZ h
theorem mV'{e:aQ}(h:e ≠ .pl (4+((x.R.length:J)+1))):x.uY e=x.push e:=aR h
end X
section
variable{x:X}{B:Y V}{r:Hp}{Q:PE}{e e2:aQ}
theorem mk'(he:x.R.getLast? = Z e)(pN:x.pop.R.getLast? = Z e2)(hs:3<=x.R.length)(hz:x.size<99980)(q:Q .none ((x.kI e).hp B r)):Wf sc (d+5) 65 [.ref 17,iv] (x.hp B r) Q:=by
 cases e with
 | pl s=>
  have h1:(x.dB 3).size<99983:=cM X.AH (sX hz 3);have h2:((x.dB 3).jP 3).size<99983:=cM X.Jo h1;exact cF rfl rfl (Ed he (UC (aD:=3) rfl hs (eP (sX hz 3) (by decide)) (lu (aD:=3) rfl (by rw[X.Gj];exact hs) (bT h1 (by decide)) (mE (bT h2 (by decide)) 258 _ (.i 0) 0 (Ei (by rw[X.tJ];exact bT (tZ h2) (by decide)) q)))))
 | num n=>
  have q:Q .none ((x.pop.pop.Gi n (x.pop.R.getLast?.getD (.num 0))).hp B r):=q;rw[pN]at q;refine cF rfl rfl (Ed he (AE he (AE pN (fU (λh=>?_) λh=>?_))))
  ·have q:Q .none (((if n=0 then x.pop.pop.pop.uY e2 else x.pop.pop)).hp B r):=q
   rw[aZ (kB.mp h)]at q;have hl:0<x.pop.pop.R.length:=by
    show 0<(x.R.dropLast.dropLast).length;rw[iR,iR];exact Lb (Vk hs)
   obtain⟨e3,he3⟩:=tL hl;have GF:x.pop.pop.pop.size<99980:=cM X.pE (cM X.pE (cM X.pE hz));refine AE he3 (uX _ (MU (fU (λh2=>?_) λh2=>?_)))
   ·have h2:=fY h2
    rw[kH]at h2;rw[X.mW' h2]at q;refine uX _ ?_;rw[kH];exact Ej (bT GF (by decide)) _ e2 (uX _ (Gg (bT (cM X.IS (tZ GF)) (by decide)) (.pl (4+x.pop.pop.pop.R.length)) q))
   ·have h2:=AQ h2
    rw[kH]at h2;rw[X.mV' h2]at q;exact Gg (bT GF (by decide)) e2 q
  ·have q:Q .none (((if n=0 then x.pop.pop.pop.uY e2 else x.pop.pop)).hp B r):=q
   rw[aR (jB.mp h)]at q;exact q
end
section
variable{x:X}{B:Y V}{r:Hp}{Q:PE}{e:aQ}
theorem lv'{n:O}(he:x.R.getLast? = Z e)(hf:0<=x.bV)(ht:(x.pop.dC e).2=(op,.i i,c))(hm:hZ m=Z (n,k))(hz:x.size+x.R.length<99980)(q:Q .none (((x.pop.dC e).1.DD op i c n k 0).hp B [])):
  Wf sc (d+7) 55 [.ref 17,.aM [.int 4,.int m]] (x.hp B []) Q:=by
 have hc:=X.Fj (x:=x.pop) (e:=e);have lJ:(x.pop.dC e).1.size+(x.pop.dC e).1.R.length<99980:=by
  rw[hc.3];exact cM (dP hc.1 _) (X.Tz hz)
 refine cF rfl rfl (lq he hf ?_);rw[ht];generalize (x.pop.dC e).1=y at q lJ ⊢;have ho:=X.ix (y:=y) (n:=n) (r:=k) (bB:=0);have mA:(y.eG 4 n k 0).size<99982:=cM ho.2 (sX lJ 2);have hk:(y.eG 4 n k 0).cY.aA[y.aA.length]?=Z (y.GH n k 0):=by
  show (y.eG 4 n k 0).aA[_]?=_;rw[ho.1,oP (cE _),qB];rfl
 unfold X.DD at q;refine ln hm (T8 (bT lJ (by decide)) ?_);rw[BL,BL];exact OO (bT mA (by decide)) (Mc (g:= {y.GH n k 0 with eE:=Z (y.eG 4 n k 0).aH.length}) hk rfl rfl (zJ (f:= {y.GH n k 0 with eE:=Z (y.eG 4 n k 0).aH.length}) (jZ (iN hk)) rfl rfl
  (T7 (by rw[X.Us,X.Ec];exact bT (tZ mA) (by decide)) op i c aE rfl q)))
end
namespace X
noncomputable def TV(x:X)(l:O):bY:=.inst 10 [(15,.ref 0),(16,.ref 12),(19,.int 4),(8,.int 2),(4,.ref 18),(21,.ref 19),(22,.int x.bV),(23,.ref l),(24,.int x.aF),(25,.ref 21),(26,.bool x.bH),(27,.int x.cL)]
def jV(B:Y V)(x:X)(l:O)(S0:Y V)(r:Hp):Hp:=dT B (.list [.ref 3,.ref 4,.ref 5,.ref 6]:: .list [.int 5]:: .list [.int 5]::x.TV l:: .list (x.aP.map dF.v):: .list (x.aH.map .int):: .list S0:: .list ((fX x.aA.length).map λk=>.ref (k+22))::(x.aA.map Fr.o++r))
end X
namespace X
variable{x y:X}
theorem kk'{s:J}{e:aQ}: (y.fS s e).aH=y.aH:=by
 cases e with
 | num n=>rfl
 | pl t=>
  show (if t=s then y else y.cH 256 s (.i t) 0).aH=_;by_cases h:t=s;rw[aZ h];rw[aR h];rfl
theorem nq'{h:O}: (y.iK h).aH=y.aH:=by
 cases he:y.R[h]? with
 | none=>unfold iK;rw[he]
 | some e=>rw[UK he];exact kk'
theorem pj{m:O}: (x.dB m).aH=x.aH:=by
 unfold dB;generalize x.R.length-m=b;induction m with
 | zero=>rfl
 | succ m ih=>exact nq'.trans ih
end X
variable{e e1 e2:aQ}{st:Y aQ}{aP:Y dF}{F aA:Y Fr}{f f':Fr}{z:X}{aD cT n l:O}{B Bi bd post code bL:Y aI}{v:J}
theorem hy'{x:X}{Q:V->Prop}(h:x.aA.length=k+1)(q:Q (.ref (k+22))):bZ (BX ((fX x.aA.length).map λk=>V.ref (k+22)) (-1)) Q:=
 Ed (g:=λk=>V.ref (k+22)) (v:=k) (by rw[h,I8,Ds]) q
section
variable{x:X}{B:Y V}{r:Hp}{Q:PE}
theorem lf'{k el hp:O}{le:J}(hk:x.aA[k]?=Z f)(hn:x.aA.length=k+1)(nK:f.gE=Z le)(rG:f.eE=Z (el:J))(cQ:el<x.aH.length)(zN:f.bP+f.params=hp)(sL:hp<1000)(hz:x.size+x.R.length<99980)
  (q:∀S0,Q .none (X.jV B (x.Ac k f le el hp) (x.hp B r).length S0 (r++[.list ((X.eB hp).map aQ.v)]))):Wf sc (d+6) 56 [.ref 17,iv] (x.hp B r) Q:=by
 have tail:∀(y:X) (g:Fr),y.aA[k]?=Z g->y.aA.length=x.aA.length->el<y.aH.length->g.eE=Z (el:J)->g.bP=f.bP->g.params=f.params->(x.Ac k f le el hp=((y.dS el).jY k {g with eE:=aB}).toLive (X.eB hp))->
   bQ (cx sc) (Cl sc (d+5)) (Wy.drop 2) [Z (.ref 17),Z iv,Z (.ref (k+22))] (y.hp B r) λfl _ h1=>Q (gT fl) h1:=λy g h1 h2 h3 h4 h5 h6 h7=>by
  rw[h7]at q;have hg:lW g.Bh 13=Z (.int el):=aW (λo=>Z (oV o)) h4;have hl:(x.hp B r).length=(((y.dS el).jY k {g with eE:=aB}).hp B r).length:=by
   rw[zQ,zQ];show _=(y.aA.set k _).length+_+_;rw[mI,h2]
  have jU:((y.dS el).jY k {g with eE:=aB}).aA[k]?=Z {g with eE:=aB}:=jZ (iN h1);rw[hl]at q;refine zJ h1 rfl hg (IX h3 (Mc (g:= {g with eE:=aB}) (x:=y.dS el) h1 rfl rfl (zJ jU rfl rfl (zJ jU rfl rfl ?_))));refine nh (n:=hp) (by rw[h5,h6];exact zN) (bT sL (by decide)) (q _)
 refine cF rfl rfl (hy' hn (fU (λh=>?_) λh=>?_))
 ·have hy:(x.dB x.R.length).size<99980:=cM X.AH hz
  have jK:(x.dB x.R.length).aA[k]?=Z f:=by rw[X.sR];exact hk
  have jU:((x.dB x.R.length).jY k {f with used:=u}).aA[k]?=Z {f with used:=u}:=jZ (iN jK);have M1:lW ({f with used:=u}: Fr).Bh 11=Z (.int le):=aW (λo=>Z (oV o)) nK;refine UB (bT hz (by decide)) (Mc (g:= {f with used:=u}) jK rfl rfl (zJ jU rfl M1 (mE (by rw[X.Us];exact bT hy (by decide)) 259 le (.i 0) 0 ?_)));refine tail _ {f with used:=u} jU ?_ ?_ rG rfl rfl ?_
  ·show ((x.dB _).aA.set k _).length=_
   rw[mI,X.sR]
  ·show _<(x.dB _).aH.length
   rw[X.pj];exact cQ
  ·unfold X.Ac X.zH X.rB
   rw[aZ h,aZ h]
 ·refine tail x f hk rfl cQ rG rfl rfl ?_
  unfold X.Ac X.zH X.rB;rw[aR (rS.mp h),aR (rS.mp h)]
end
section
section
variable{x:X}{B:Y V}{r:Hp}
theorem Fp{a:O}{v:V}{Q:V->Prop}(hl:x.aA.length=k)(hd:(cx sc).qF 9 a=u)(hv:lW f.Bh a=Z v)(q:Q v):bZ (HM (cx sc) (.ref (k+22)) a (x.hp B (f.o::r))) Q:=by
 refine .of (x:=v) ?_ q;have e:(x.hp B (f.o::r))[k+22]?=Z f.o:=by
  show (x.aA.map Fr.o++f.o::r)[k]?=_;rw[oP (by rw[cJ,hl];exact cE _),cJ,hl,qB];rfl
 show bE (bE (x.hp B (f.o::r))[k+22]? B3) _=_;rw[e];exact (pC hd).trans hv
theorem fX'(h:x.aA[k]?=Z f)(hn:x.aA.length=k+1):(x.hp B r).set 21 (.list (((fX x.aA.length).map λk=>V.ref (k+22)).dropLast))=x.iA.hp B (f.o::r):=by
 have e1:x.aA=x.aA.dropLast++[f]:=by
  have h1:x.aA.getLast? = Z f:=by rw[CU,hn];exact h
  obtain⟨l,hl⟩:=List.getLast?_eq_some_iff.mp h1;rw[hl,CT]
 have e2:((fX x.aA.length).map λk=>V.ref (k+22)).dropLast=(fX x.aA.dropLast.length).map λk=>V.ref (k+22):=by
  rw[iR,hn,I8,kM];exact CT ..
 have e3:x.aA.map Fr.o++r=x.aA.dropLast.map Fr.o++f.o::r:=by
  rw[show x.aA.map Fr.o=(x.aA.dropLast++[f]).map Fr.o from aW _ e1,kM,fB];rfl
 unfold X.iA X.hp;dsimp only;rw[e2,e3];rfl
theorem RQ{i:O}{Q:aC->Prop}(hi:H[i]?=Z (.list xs))(hj:H[j]?=Z (.list []))(q:Q xs.isEmpty):bZ (xF G .Eq (.ref i) (.ref j) H) Q:=by refine .of (x:=xs.isEmpty) ?_ q;show bE (bE H[i]? qN) (λxs=>bE (bE H[j]? qN) λys=>if xs.length=ys.length then lE xs ys 20 else Z aE)=_;rw[hi,hj];cases xs<;>rfl
end
section
variable{o:bY}
variable{x:X}{B:Y V}{r:Hp}{Q:PE}{S0:Y V}
theorem lu'(h:J)(k:Q (.int (4+h)) (x.jV B l S0 r)):Wf sc (d+1) 30 [.ref 17,.int h] (x.jV B l S0 r) Q:=cF rfl rfl k
theorem lg'(hz:x.aP.length<99999)(op i:J)(b:Arg)(c:J)(k:Q .none ((x.cH op i b c).jV B l S0 r)):Wf sc (d+1) 29 [.ref 17,.int op,.int i,b.v,.int c] (x.jV B l S0 r) Q:=
 cF rfl rfl (oS (Nh hz) (to (Q:=Q .none) (show (x.jV B l S0 r).set 18 (.list (x.aP.map dF.v++[dF.v ⟨op,i,b,c⟩]))=(x.cH op i b c).jV B l S0 r from by rw[zT];rfl) k))
theorem fT': x.jV B l S0 r++[o]=x.jV B l S0 (r++[o]):=by unfold X.jV;rw[<-fB];rfl
theorem Zi(hl:l=x.aA.length+r.length+22):(x.jV B l S0 (r++[o]))[l]?=Z o:=by
 have:(x.aA.map Fr.o++(r++[o]))[x.aA.length+r.length]?=Z o:=by
  rw[<-fB,<-cJ (f:=Fr.o),<-bA];exact eA
 rw[hl];exact this
theorem ls'(e:H=x.jV B l S0 r)(h:J)(k:Q (.int (4+h)) (x.jV B l S0 r)):Wf sc (d+1) 30 [.ref 17,.int h] H Q:=e▸lu' h k
theorem lz{k hp:O}{y:X}(hy:y.aA.length=k)(hz:y.size<99990)(zN:f.bP+f.gS=hp)(sL:hp<1000)(q:∀S0,Q .none ((y.rC hp).vP.jV B (k+(r.length+1)+22) S0 (f.o::r++[.list ((X.eB hp).map aQ.v)]++[.list []]))):
  bQ (cx sc) (Cl sc (d+5)) (L6.drop 4) [Z (.ref 17),Z iv,Z (.ref (k+22))] (y.hp B (f.o::r)) λfl _ h1=>Q (gT fl) h1:=by
 have dE:((X.eB hp).map aQ.v).length=hp:=by
  unfold X.eB;rw[cJ,cJ,pI]
 have hl:(y.hp B (f.o::r)).length=y.aA.length+(f.o::r).length+22:=zQ;rw[show k+(r.length+1)+22=(y.hp B (f.o::r)).length from (hl.trans (by rw[hy];rfl)).symm]at q;refine Fp hy rfl rfl (Fp hy rfl rfl (nh (n:=hp) zN (bT sL (by decide)) (pR (Zi (x:=y) (B:=B) (S0:=y.R.map aQ.v) hl) ?_)));have eH:X.jV B {y with aF:=if (((X.eB hp).map aQ.v).length:J)>y.aF then (((X.eB hp).map aQ.v).length:J) else y.aF} (y.hp B (f.o::r)).length (y.R.map aQ.v) (f.o::r++[.list ((X.eB hp).map aQ.v)])++[.list []]=(y.rC hp).jV B (y.hp B (f.o::r)).length (y.R.map aQ.v) (f.o::r++[.list ((X.eB hp).map aQ.v)]++[.list []]):=by
  rw[dE,fT'];rfl
 have no:((y.rC hp).aA.isEmpty&&(y.rC hp).bH)=aE->∀S0,Q .none ((y.rC hp).jV B (y.hp B (f.o::r)).length S0 (f.o::r++[.list ((X.eB hp).map aQ.v)]++[.list []])):=λh S0=>by
  have:=q S0;unfold X.vP at this;rw[aR (rS.mp h)]at this;exact this
 have yes:((y.rC hp).aA.isEmpty&&(y.rC hp).bH)=u->∀S0,Q .none (((y.rC hp).cH 267 4 (.i 2) 0).jV B (y.hp B (f.o::r)).length S0 (f.o::r++[.list ((X.eB hp).map aQ.v)]++[.list []])):=λh S0=>by
  have:=q S0;unfold X.vP at this;rw[aZ h]at this;exact this
 have em:((fX y.aA.length).map λk=>V.ref (k+22)).isEmpty=y.aA.isEmpty:=by
  cases y.aA with
  | nil=>rfl
  | cons f l=>
   show ((fX (l.length+1)).map _).isEmpty=aE;rw[yt];rfl
 refine RQ (xs:=(fX y.aA.length).map λk=>.ref (k+22)) rfl eA (AW (λh=>?_) λh=>fU (λh2=>?_) λh2=>?_)
 ·rw[em]at h
  exact to (Q:=Q .none) eH (no (by show (y.aA.isEmpty&&_)=aE;rw[h];rfl) _)
 ·rw[em]at h
  exact ls' eH 0 (lg' (x:=y.rC hp) (X.qd (x:=y) (bT hz (by decide))) 267 4 (.i 2) 0 (yes (by show (y.aA.isEmpty&&y.bH)=u;rw[h,show y.bH=u from h2];rfl) _))
 ·exact to (Q:=Q .none) eH (no (by show (_&&y.bH)=aE;rw[show y.bH=aE from h2,U9]) _)
end
section
variable{x:X}{B:Y V}{r:Hp}{Q:PE}{S0:Y V}{hp fe:O}{y:X}
abbrev gE(hp:O)(f:Fr)(r:Hp):Hp:=f.o::r++[.list ((X.eB hp).map aQ.v)]++[.list []]
theorem mc(hy:y.aA.length=k)(hz:y.size<99990)(zN:f.bP+f.gS=hp)(sL:hp<1000)(lC:f.gE=Z (fe:J))(cQ:fe<y.aH.length)(q:∀S0,Q .none (((y.vQ f.used fe).rC hp).vP.jV B (k+(r.length+1)+22) S0 (gE hp f r))):
  bQ (cx sc) (Cl sc (d+5)) (L6.drop 3) [Z (.ref 17),Z iv,Z (.ref (k+22))] (y.hp B (f.o::r)) λfl _ h1=>Q (gT fl) h1:=by
 unfold X.vQ at q;refine Fp hy rfl rfl (fU (λh=>?_) λh=>?_)
 ·rw[aZ h]at q
  exact Fp hy rfl (show lW f.Bh 11=Z (.int fe) from aW (λo=>Z (oV o)) lC) (IX cQ (lz (y:=(y.dS fe).H8) hy (by show (y.dS fe).size<_;rw[X.OB];exact hz) zN sL q))
 ·rw[aR (rS.mp h)]at q
  exact lz hy hz zN sL q
theorem lx(hy:y.aA.length=k)(hz:y.size<99990)(zN:f.bP+f.gS=hp)(sL:hp<1000)(lC:f.gE=Z (fe:J))(cQ:fe<y.aH.length)(rG:∀l,f.eE=Z l->0<=l/\l.toNat<y.aH.length)(q:∀S0,Q .none ((((y.Ae f.eE).vQ f.used fe).rC hp).vP.jV B (k+(r.length+1)+22) S0 (gE hp f r))):
  bQ (cx sc) (Cl sc (d+5)) (L6.drop 2) [Z (.ref 17),Z iv,Z (.ref (k+22))] (y.hp B (f.o::r)) λfl _ h1=>Q (gT fl) h1:=by
 cases he:f.eE with
 | none=>
  rw[he]at q;exact Fp hy rfl (show lW f.Bh 13=Z .none from aW (λo=>Z (oV o)) he) (mc hy hz zN sL lC cQ q)
 | some l=>
  rw[he]at q;obtain⟨h0,h1⟩:=rG l he;have hl:lW f.Bh 13=Z (.int (l.toNat:J)):=(aW (λo=>Z (oV o)) he).trans (by rw[pG h0];rfl);exact Fp hy rfl hl (Fp hy rfl hl (IX h1 (mc (y:=(y.dS l.toNat).H8) hy (by show (y.dS l.toNat).size<_;rw[X.OB];exact hz) zN sL lC (by show fe<(y.aH.set _ _).length;rw[mI];exact cQ) q)))
theorem lh'(hk:x.aA[k]?=Z f)(hn:x.aA.length=k+1)(hz:x.size+x.R.length<99980)(zN:f.bP+f.gS=hp)(sL:hp<1000)(lC:f.gE=Z (fe:J))(cQ:fe<x.aH.length)(rG:∀l,f.eE=Z l->0<=l/\l.toNat<x.aH.length)
  (q:∀S0,Q .none ((x.Cu f fe hp).jV B (k+(r.length+1)+22) S0 (gE hp f r))):Wf sc (d+6) 57 [.ref 17,iv] (x.hp B r) Q:=by
 have hf:x.iA.aA.length=k:=by
  show x.aA.dropLast.length=k;rw[iR,hn];rfl
 have Zn:x.iA.size<=x.size:=eR (by show x.aA.dropLast.length<=_;rw[iR];exact fW ..) _;have lJ:x.iA.size+x.iA.R.length<99980:=cM (dP Zn _) hz;refine cF rfl rfl (pD (v:=.ref (k+22)) (by rw[hn,I8,kM];exact Ds ..) ?_);rw[fX' hk hn];unfold X.Cu X.uK at q;refine fU (λh=>?_) λh=>?_
 ·rw[aZ (show x.iA.bH=u from h)]at q
  have oW:(x.iA.dB x.iA.R.length).aH=x.aH:=X.pj;exact UB (bT lJ (by decide)) (lx (by rw[X.sR];exact hf) (cM X.AH (bT lJ (by decide))) zN sL lC (by rw[oW];exact cQ) (by rw[oW];exact rG) q)
 ·rw[aR (rS.mp (show x.iA.bH=aE from h))]at q
  exact lx hf (cM Zn (X.qc hz (by decide))) zN sL lC cQ rG q
end
section
variable{x:X}{B:Y V}{Q:PE}
theorem lX'(q:Q (.int 2) (dT B [.list [.ref 3,.ref 4,.ref 5,.ref 6],.list [.int 5]])):Wf sc (d+3) 81 [.ref 0,.int 0] (dT B []) Q:=
 cF rfl rfl (md (r:=[.list [.ref 3,.ref 4,.ref 5,.ref 6]]) q)
theorem lj'{r:Hp}(q:Q (.ref 12) (dT B r++[.list [.int 5]])):Wf sc (d+3) 82 [.ref 0,.int 1] (dT B r) Q:=
 cF rfl rfl (md q)
end
variable{P:X->Prop}{T r':Hp}{c x y:X}{en it:V}{gK:V->Hp->(aG V->Hp->Prop)->Prop}{h p:O}{h':aG O}
def ci(B:Y V)(fs:Y (O×V))(r:Hp):Hp:=dT B (.list [.ref 3,.ref 4,.ref 5,.ref 6]:: .list [.int 5]:: .list [.int 5]:: .inst 10 fs::r)
@[irreducible]
def wZ(G:Cx)(cl:Call)(b:Y bD)(I:cA)(H:Hp)(Q:PS):Prop:=bQ G cl b I H Q
theorem Gu{b:Y bD}{Q:PS}: wZ G cl b I H Q=bQ G cl b I H Q:=by unfold wZ;rfl
theorem ig{b:Y bD}{Q:PS}(h:wZ G cl b I H Q):bQ G cl b I H Q:=by rw[<-Gu];exact h
section
variable{s:bD}
variable{B:Y V}{Q:PE}
theorem zA{r:Hp}{a:O}{e:E}{v:V}{Q:PS}(hd:(cx sc).qF 10 a=u)(h0:CA I 0=Z (.ref 17))(he:∀K:PE,K v (ci B fs r')->wE (cx sc) (Cl sc d) e I (ci B fs r) K)(q:wZ (cx sc) (Cl sc d) lT I (ci B (uM fs a v) r') Q):wZ (cx sc) (Cl sc d) (.dU (.D 0) a e::lT) I (ci B fs r) Q:=
by
 rw[Gu]at q ⊢;rw[Ey];exact he _ (.of h0 (.of (x:=ci B (uM fs a v) r') (pC hd) q))
theorem iQ{Q:PS}(hs:∀K:PS,K .next ρ' H'->wS G cl s I H K)(q:bQ G cl lT ρ' H' Q):bQ G cl (s::lT) I H Q:=by rw[Ey];exact hs _ q
theorem X8{d n np nv:O}{b:Y bD}(hk:(cx sc).kind n= .fn np nv b)(hl:hU args.length np=u)(h:wZ (cx sc) (Cl sc d) b (args.map Z++kA (nv-np) aB) H λfl _ h1=>Q (gT fl) h1):Wf sc (d+1) n args H Q:=cF hk hl (ig h)
theorem vm{Q:PS}(q:Q .next I H):wZ G cl [] I H Q:=by rw[Gu];exact q
theorem LK{Q:PS}(hs:∀K:PS,K .next ρ' H'->wS G cl s I H K)(q:wZ G cl lT ρ' H' Q):wZ G cl (s::lT) I H Q:=by rw[Gu]at q ⊢;rw[Ey];exact hs _ q
theorem lc'(q:Q .none (X.gR.hp B [])):Wf sc (d+1) 26 [.ref 17,.ref 0,.ref 12] (ci B [] []) Q:=
 X8 rfl rfl (zA rfl rfl (λ_ k=>k) (zA rfl rfl (λ_ k=>k) (LK (ρ':=[Z (.ref 17),Z (.ref 0),Z (.ref 12),Z (DB 2),Z (DB 2)]) (λ_ k=>k)
 (zA rfl rfl (v:=.int 4) (λ_ k=>k)
 (zA rfl rfl (v:=.int 2) (λ_ k=>k)
 (zA rfl rfl (r':=[.list []]) (λ_ k=>k)
 (zA rfl rfl (r':=[.list [],.list []]) (λ_ k=>k)
 (zA rfl rfl (λ_ k=>k)
 (zA rfl rfl (r':=[.list [],.list [],.list []]) (λ_ k=>k)
 (zA rfl rfl (λ_ k=>k)
 (zA rfl rfl (r':=[.list [],.list [],.list [],.list []]) (λ_ k=>k)
 (zA rfl rfl (λ_ k=>k)
 (zA rfl rfl (λ_ k=>k)
 (vm q))))))))))))))
end
noncomputable def dv(l:Y (J×J)):Y (J×V):=l.map λp=>(p.1,.int p.2)
theorem MZ{l:Y (J×J)}{k:J}: fR (dv l) k=(nV l k).map V.int:=by unfold fR dv nV;rw[List.find?_map,Vs,Vs];rfl
theorem oH'{k:J}{v:V}(h:fR es k=aB):yA es k v=es++[(k,v)]:=by refine aR λq=>?_;obtain⟨p,hp,hq⟩:=E5.mp q;exact absurd hq (yb.mp (Option.map_eq_none_iff.mp h) p hp)
theorem hW'{l:Y (J×J)}{k:J}(h:nV l k=aB):nV (l++[(k,v)]) k=Z v:=by rw[Sw,h];show nV [(k,v)] k=_;unfold nV;rw[List.find?_cons_of_pos (p:=λe:J×J=>e.1==k) (a:=(k,v)) (Ce k)];rfl
section
variable{b:O->V->cA->aG cA}
variable{m:O}{ep:aG O}{v:V}
theorem nO{Q:xA->Prop}(e:H[l]?=Z (.list xs))(hm:JB m 2=u)(q:Q .GQ):bZ (K7 G m (.ref l) H) Q:=.of (x:=xA.GQ) (show bE H[l]? (Uc G m)=Z xA.GQ from (pB e).trans (pC (x:=Z xA.GQ) hm)) q
theorem nM{Q:Y V->Prop}(e:H[l]?=Z (.list xs))(q:Q xs):bZ (lK H l) Q:=.of (x:=xs) (pB e) q
theorem Fk{Q:Y (J×V)×aG O->Prop}(e:H[l]?=Z (.dict es ep))(q:Q (es,ep)):bZ (Be H l) Q:=.of (x:=(es,ep)) (pB e) q
theorem gq{Q:aC->Prop}(e:H[l]?=Z (.dict es ep))(q:Q (!(fR es i).isSome)):bZ (xF G .NotIn (.int i) (.ref l) H) Q:=by refine .of (x:= !(fR es i).isSome) ?_ q;show bE (bE (Be H l) _) _=_;unfold Be;rw[e];rfl
theorem DC{Q:V->Prop}(e:H[l]?=Z (.dict es ep))(hv:fR es i=Z v)(q:Q v):bZ (Au G (.ref l) i H) Q:=.of (x:=v) ((pB e).trans hv) q
theorem UJ{Q:Hp->Prop}(e:H[l]?=Z (.dict es ep))(hz:es.length<1000)(h1:yA es i v=es')(h2:(if (fR es i).isSome then ep else ep.map (· + 1))=gW)(q:Q (H.set l (.dict es' gW))):bZ (Ib (.ref l) i v H) Q:=by refine .of (x:=H.set l (.dict es' gW)) ?_ q;show bE H[l]? _=_;rw[e,<-h1,<-h2];exact pB (pC (decide_eq_true (aL (lO hz) (by decide))))
theorem iV'(hv:xs[k]?=Z v)(hb:b k v I=Z ρ1):wK b (.aM xs) k I H=Z (Z ρ1):=by show bE (Z xs[k]?) _=_;rw[hv];exact pB hb
theorem iW'(hv:xs.length<=k):wK b (.aM xs) k I H=Z aB:=by show bE (Z xs[k]?) _=_;rw[lF hv];rfl
end
section
variable{B:Y V}{r:Hp}{o o' p:bY}
theorem Cr(hk:x.aA.length=k):(x.hp B (o::r))[k+22]?=Z o:=by show (x.aA.map Fr.o++o::r)[k]?=_;rw[oP (by rw[cJ,hk];exact cE _),cJ,hk,qB];rfl
theorem Fb(hk:x.aA.length=k):(x.hp B (o::p::r))[k+23]?=Z p:=by show (x.aA.map Fr.o++o::p::r)[k+1]?=_;rw[oP (by rw[cJ,hk];exact nC _),cJ,hk,wQ];rfl
theorem oy{a r:Y α}{o o':α}(h:a.length=k):(a++o::r).set k o'=a++o'::r:=by rw[E9 k o' (dH h),h,qB];rfl
theorem nj'{a r:Y α}{o p o':α}(h:a.length=k):(a++o::p::r).set (k+1) o'=a++o::o'::r:=by rw[E9 (k+1) o' (aL (dH h) (nC _)),h,wQ];rfl
theorem aA'(hk:x.aA.length=k):(x.hp B (o::r)).set (k+22) o'=x.hp B (o'::r):=
 aW (λl=>dT B (.list [.ref 3,.ref 4,.ref 5,.ref 6]:: .list [.int 5]:: .list [.int 5]::x.obj:: .list (x.aP.map dF.v):: .list (x.aH.map .int):: .list (x.R.map aQ.v):: .list ((fX x.aA.length).map λk=>.ref (k+22))::l)) (oy ((cJ _).trans hk))
theorem P9(hk:x.aA.length=k):(x.hp B (o::p::r)).set (k+23) o'=x.hp B (o::o'::r):=
 aW (λl=>dT B (.list [.ref 3,.ref 4,.ref 5,.ref 6]:: .list [.int 5]:: .list [.int 5]::x.obj:: .list (x.aP.map dF.v):: .list (x.aH.map .int):: .list (x.R.map aQ.v):: .list ((fX x.aA.length).map λk=>.ref (k+22))::l)) (nj' ((cJ _).trans hk))
end
noncomputable def Jq:aG bD->Y bD
 | some (.rE _ _ b)=>b
 | some (.HW _ _ b)=>b
 | _=>[]
def oX':Y bD:=Jq QF[2]?
def oJ':Y bD:=Jq QF[4]?
section
variable{Q:PS}{go:cA->Hp->Prop}
variable{B:Y V}{r:Hp}
theorem mm'{t:TS}(hk:t.x.aA.length=k)(ok:uC t.x dd)(hz:t.x.size<99980)(M3:t.iD.length<1000)(eC:t.dW.length<1000)
  (q:∀p7 p8 p9 gW g,go [Z (.ref 17),Z iv,Z en,Z (.int dd),Z (.int iP),Z (.ref (k+22)),Z (.ref (k+23)),p7,p8,p9] ((t.step dd).x.hp B (.dict (dv (t.step dd).dW) (Z gW):: .list ((t.step dd).iD.map .int)::g))):
  bQ (cx sc) (Cl sc (d+3)) oX' [Z (.ref 17),Z iv,Z en,Z (.int dd),Z (.int iP),Z (.ref (k+22)),Z (.ref (k+23)),o7,o8,o9] (t.x.hp B (.dict (dv t.dW) (Z ep):: .list (t.iD.map .int)::r)) (kJ go Q):=by
 have cQ:cO t.x dd<t.x.aA.length:=cM (fW ..) (CX (cM (nD _) ok.lt) CW);have hd:cO t.x dd+dd+1=t.x.aA.length:=n2 ok.lt;have hf:=cS cQ;obtain⟨⟨cT,oW⟩,qL,Rl,Hh⟩:=ok.fK _ hf;have hg:=X.sI (x:=t.x) (k:=cO t.x dd);have RY:=Fu hf;unfold TS.step at q;rw[hf]at q;dsimp only at q;rw[oW]at q;generalize t.x.aA[cO t.x dd]=f at *;generalize cO t.x dd=n at *;refine ON rfl hf hd (pG qL).symm oW (mf RY rfl (by rw[hg.2];exact Rl) (by rw[hg.1];exact bT hz (by decide)) λg=>?_);rw[Fr.HZ.2];have nI:(t.x.cC n).aA.length=k:=hg.3.trans hk;have Ra:(t.iD.map V.int).length<100000:=by rw[cJ];exact bT M3 (by decide)
 refine fU (λh=>?_) λh=>?_
 ·rw[aZ h]at q
  exact nO (Fb nI) rfl (nM (Fb nI) (oS Ra (to (Q:=go _) ((P9 nI).trans (by rw[zT];rfl)) (q _ _ _ ep (r++g)))))
 ·rw[aR (rS.mp h)]at q
  cases hl:nV t.dW dd with
  | some l=>
   rw[hl]at q;have Bo:fR (dv t.dW) dd=Z (.int l):=by rw[MZ,hl];rfl
   refine gq (Cr nI) ?_;rw[Bo];exact nO (Fb nI) rfl (DC (Cr nI) Bo (nM (Fb nI) (oS Ra (to (Q:=go _) ((P9 nI).trans (by rw[zT];rfl)) (q _ _ _ ep (r++g))))))
  | none=>
   rw[hl]at q;have Bo:fR (dv t.dW) dd=aB:=by rw[MZ,hl];rfl
   refine gq (Cr nI) ?_;rw[Bo];have C7:((t.x.cC n).aH.length:J)=t.x.aH.length:=by rw[hg.4]
   have jU:(t.x.cC n).cY.aA.length=k:=nI;refine mq C7 (by rw[hg.1];exact bT hz (by decide)) (UJ (es':=dv (t.dW++[((dd:J),(t.x.aH.length:J))])) (Cr jU) (by unfold dv;rw[cJ];exact eC) ((oH' Bo).trans (by unfold dv;rw[kM];rfl)) (by rw[Bo]) ?_);have ft':fR (dv (t.dW++[((dd:J),(t.x.aH.length:J))])) dd=Z (.int t.x.aH.length):=by rw[MZ,hW' hl];rfl
   exact to (Q:=λH=>bQ (cx sc) _ _ _ H _) (aA' jU) (nO (Fb jU) rfl (DC (Cr jU) ft' (nM (Fb jU) (oS Ra (to (Q:=go _) ((P9 jU).trans (by rw[zT];rfl)) (q _ _ _ (ep+1) (r++g)))))))
theorem ml'{ps:Y (J×J)}{gv:V}(hk:x.aA.length=k)(M7:nV ps dd=Z (l:J))(ok:uC x dd)(hl:l<x.aH.length)(hz:x.size<99980)
  (q:∀p7 p8 p9,go [Z (.ref 17),Z iv,Z en,Z (.int dd),Z (.int iP),Z (.ref (k+22)),Z gv,p7,p8,p9] ((qR x ((dd:J),(l:J))).hp B (.dict (dv ps) (Z ep)::r))):
  bQ (cx sc) (Cl sc (d+3)) oJ' [Z (.ref 17),Z iv,Z en,Z (.int dd),Z (.int iP),Z (.ref (k+22)),Z gv,o7,o8,o9] (x.hp B (.dict (dv ps) (Z ep)::r)) (kJ go Q):=by
 have cQ:cO x dd<x.aA.length:=cM (fW ..) (CX (cM (nD _) ok.lt) CW);have hd:cO x dd+dd+1=x.aA.length:=n2 ok.lt;have hf:=cS cQ;obtain⟨⟨cT,oW⟩,qL,Rl,Hh⟩:=ok.fK _ hf;have hg:=X.sI (x:=x) (k:=cO x dd);have RY:=Fu hf;unfold qR at q;rw[show cO x ((dd:J),(l:J)).1.toNat=cO x dd from rfl,hf]at q;dsimp only at q;rw[oW]at q;generalize x.aA[cO x dd]=f at *;generalize cO x dd=n at *;have nI:(x.cC n).aA.length=k:=hg.3.trans hk;have Bo:fR (dv ps) dd=Z (.int l):=by rw[MZ,M7];rfl
 have F8:((x.cC n).dS l).size<99980:=by rw[X.OB,hg.1];exact hz
 have Hj:=X.zW (x:=(x.cC n).dS l) (fh:=f.bP) (aD:=f.aD.toNat);have ZP:((x.cC n).dS l).size+f.aD.toNat<99990:=eP (qA F8 (E4.mpr Hh)) (by decide);refine ON rfl hf hd (pG qL).symm oW (DC (Cr nI) Bo (IX (by rw[hg.4];exact hl) (OQ RY rfl (by show _<=(x.cC n).R.length;rw[hg.2];exact Rl) (bT ZP (by decide)) ?_)));rw[Fr.HZ.2];exact mE (cM Hj.1 (bT ZP (by decide))) 259 cT (.i 0) 0 (q _ _ _)
end
theorem TS.qu:∀{ds:Y O} {t:TS} {dd:O},t.gJ (ds++[dd])=(t.gJ ds).step dd
 | [],t,dd=>rfl
 | d::r,t,dd=>by
  show (t.step d).gJ (r++[dd])=_;rw[TS.qu];rfl
section
variable{x:V}
theorem iT'(e:H[l]?=Z (.dict es (Z ep)))(hv:(es.map (·.1))[k]?=Z i):Kh dN l (es.map (·.1)) ep k I H=Z (Z (I.set dN (Z (.int i)))):=by unfold Kh Be;rw[e];show eU (decide (es.map (·.1)=es.map (·.1))&&decide (Z ep=Z ep)) _=_;rw[decide_eq_true rfl,decide_eq_true rfl,hv];rfl
theorem iU'(e:H[l]?=Z (.dict es (Z ep)))(hv:es.length<=k):Kh dN l (es.map (·.1)) ep k I H=Z aB:=by unfold Kh Be;rw[e];show eU (decide (es.map (·.1)=es.map (·.1))&&decide (Z ep=Z ep)) _=_;rw[decide_eq_true rfl,decide_eq_true rfl,lF (by rw[cJ];exact hv)];rfl
theorem nK'(q:Q (.aM xs,H)):bZ (Ig (.aM (x::xs)) (.int 1) .none H) Q:=by refine .of (x:=(.aM xs,H)) ?_ q;show eU (u&&(u&&decide ((1:J)<=((x::xs).length:J)))) _=_;rw[decide_eq_true (by rw[wP];lia:(1:J)<=((x::xs).length:J))];rfl
theorem Oe(e:H[l]?=Z (.list xs))(q:Q (.aM xs,H)):bZ (Fi G .tuple [.ref l] H) Q:=by refine .of (x:=(.aM xs,H)) ?_ q;show bE (bE H[l]? qN) _=_;rw[e];rfl
end
section
variable{B:Y V}{Q:PE}
theorem kY'(he:x.R.getLast? = Z e)(qJ:∀dd∈ds,uC x.pop dd)(hn:ds.length<=10)(hz:x.size<99900)(q:∀r',Q .none ((x.pop.AY e ds).hp B r')):Wf sc (d+4) 60 [.ref 17,.aM (.int 14::rN ds)] (x.hp B []) Q:=by
 have F8:x.pop.size<99900:=cM X.pE hz;refine cF rfl rfl (AE he (Kw (bT F8 (by decide)) e ((x.pop.R.map aQ.v).length:J) ?_));rw[kH];obtain⟨s1,s2,s3,s4⟩:=X.xZ (x:=x.pop) (e:=e) (h:=x.pop.R.length);have hzz:=cM s1 (tZ F8);have RP:∀dd∈ds,uC (x.pop.fT x.pop.R.length e).1 dd:=λdd h=>(qJ dd h).same (.of_eq s2) (by rw[s3]);unfold X.AY at q;generalize (x.pop.fT x.pop.R.length e).2=iP at *;generalize (x.pop.fT x.pop.R.length e).1=z at *;clear s1 s2 s3 s4 qJ F8 hz;have Am:=λk=>TS.qv (t:=⟨z,[],[]⟩) (ds:=ds) (es:=ds.take k) ⟨0,0,0,0,0,0,0⟩ (λe h=>yo h) (λp hp=>by cases hp);have ME:∀k,A3 ((TS.gJ ⟨z,[],[]⟩ (ds.take k)).x.size<99911) ((TS.gJ ⟨z,[],[]⟩ (ds.take k)).iD.length<1000) ((TS.gJ ⟨z,[],[]⟩ (ds.take k)).dW.length<1000):=λk=>by
  have hl:(ds.take k).length<=10:=aL (PA ..) hn;exact⟨cM (Am k).3 (qA hzz hl),cM (Am k).6 (cM (eR hl _) (by decide:0+10<1000)),cM (Am k).7 (cM (eR hl _) (by decide:0+10<1000))⟩
 refine nK' (GO ds.length (λn I H=>Wq (λo3 o7 o8 o9 _ _=>I=[Z (.ref 17),Z (.aM (.int 14::rN ds)),Z e.v,o3,Z (.int iP),Z (.ref (z.aA.length+22)),Z (.ref (z.aA.length+23)),o7,o8,o9]) (λ_ _ _ _ ep g=>H=(TS.gJ ⟨z,[],[]⟩ (ds.take n)).x.hp B (.dict (dv (TS.gJ ⟨z,[],[]⟩ (ds.take n)).dW) (Z ep):: .list ((TS.gJ ⟨z,[],[]⟩ (ds.take n)).iD.map .int)::g))) ?_ ?_ ?_)
 ·refine⟨aB,aB,aB,aB,0,[],?_,(aW (· ++ _) Ht).trans Ht⟩
  rw[bA,zQ];rfl
 ·intro I H j
  obtain⟨o3,o7,o8,o9,ep,g,e1,e2⟩:=j;rw[e1,e2];refine⟨iW' (dH (cJ _)),?_⟩;have hf:=Am ds.length;have hb:=ME ds.length;rw[CV]at hf hb ⊢;generalize TS.gJ ⟨z,[],[]⟩ ds=t at *;have hk:t.x.aA.length=z.aA.length:=hf.1.1;refine Oe (Fb hk) (mE (bT hb.1 (by decide)) 262 iP (.t t.iD) 0 (Fk (Cr hk) ?_));have NH:pJ z (t.x.cH 262 iP (.t t.iD) 0):=pJ.trans hf.1 (.of_eq rfl);have Z0:(t.x.cH 262 iP (.t t.iD) 0).R=z.R:=hf.4;have eC:(t.x.cH 262 iP (.t t.iD) 0).size<99912:=by rw[X.tJ];exact tZ hb.1
  have C7:(t.x.cH 262 iP (.t t.iD) 0).aH.length=t.x.aH.length:=rfl;generalize t.x.cH 262 iP (.t t.iD) 0=aN at *;have hs:=λk=>rh (x:=aN) (ps:=t.dW) (ds:=ds) ⟨0,0,0,0,0,0,0⟩ (λdd h=>(RP dd h).same NH (by rw[Z0])) (λp hp=>(hf.8 p hp).1) k;refine GO t.dW.length (λn I H=>Wo (λo3 o7 o8 o9 _=>I=[Z (.ref 17),Z (.aM (.int 14::rN ds)),Z e.v,o3,Z (.int iP),Z (.ref (z.aA.length+22)),Z (.ref (z.aA.length+23)),o7,o8,o9]) (λ_ _ _ _ g=>H=(mU aN (t.dW.take n)).hp B (.dict (dv t.dW) (Z ep)::g))) ?_ ?_ ?_;exact⟨_,_,_,_,_,rfl,rfl⟩
  ·intro I H j
   obtain⟨o3,o7,o8,o9,g,e1,e2⟩:=j;rw[e1,e2];have jU:(mU aN (t.dW.take t.dW.length)).aA.length=z.aA.length:=(hs _).1.1.trans NH.1;refine⟨iU' (Cr jU) (dH (cJ _)),OM ?_⟩;rw[CV];exact q _
  ·intro n I H hl j go fL
   obtain⟨o3,o7,o8,o9,g,e1,e2⟩:=j;rw[e1,e2];have KE:=hs n;have jU:(mU aN (t.dW.take n)).aA.length=z.aA.length:=KE.1.1.trans NH.1;have hp:=cS hl;obtain⟨⟨dd,ES,q1⟩,⟨l,q2,nJ⟩,M7⟩:=hf.8 _ (AO hl);have lI:t.dW[n]=((dd:J),(l:J)):=Prod.ext q1 q2;rw[lI]at hp M7;have fB':(t.dW.take n).length<=10:=aL (PA ..) (aL (aL hf.7 (dH (nQ _))) hn);exact⟨_,iT' (Cr jU) (i:=(dd:J)) (by unfold dv;rw[Gy,fJ,hp];rfl),ml' (l:=l) jU M7 (((RP dd ES).same NH (by rw[Z0])).same KE.1 (by rw[KE.4])) (by rw[KE.5,C7];exact nJ) (cM KE.3 (bT (qA eC (yQ 3 fB')) (by decide))) λp7 p8 p9=>fL _ _ ⟨_,_,_,_,_,rfl,by rw[Im hp,UZ]⟩⟩
 ·intro n I H hl j go fL
  obtain⟨o3,o7,o8,o9,ep,g,e1,e2⟩:=j;rw[e1,e2];have hp:=cS hl;have hf:=Am n;exact⟨_,iV' (v:=.int (ds[n]:O)) (by unfold rN;rw[fJ,hp];rfl) rfl,mm' hf.1.1 ((RP _ (AO hl)).same hf.1 (by rw[hf.4])) (bT (ME n).1 (by decide)) (ME n).2 (ME n).3 λp7 p8 p9 gW g'=>fL _ _ ⟨_,_,_,_,gW,g',rfl,by rw[Im hp,TS.qu]⟩⟩
end
mutual
noncomputable def sO(p:O->aC):V->aC
 | .ref a=>p a
 | .aM xs=>zZ p xs
 | _=>u
noncomputable def zZ(p:O->aC):Y V->aC
 | []=>u
 | x::xs=>sO p x&&zZ p xs
end
def TY(p:O->aC):Y (O×V)->aC
 | []=>u
 | e::r=>sO p e.2&&TY p r
def GW(p:O->aC):bY->aC
 | .list xs=>zZ p xs
 | .dict _ _=>aE
 | .inst _ fs=>TY p fs
noncomputable def DU(a:O):aC:=Nat.blt a 22 && !(hU a 20)
section
variable{p:O->aC}
theorem P2{a:aC}(h:(a&&b)=u):a=u/\b=u:=by
 cases a with
 | false=>exact mX (show aE=u from h)
 | true=>exact⟨rfl,h⟩
mutual
theorem Ta(hg:∀a,p a=u->g a=a):∀(v:V),sO p v=u->qT g v=v
 | .none,_=>rfl
 | .bool _,_=>rfl
 | .int _,_=>rfl
 | .str _,_=>rfl
 | .aM xs,h=>aW V.aM (Tc hg xs h)
 | .ref a,h=>aW V.ref (hg a h)
 | .g _,_=>rfl
 | .gG _ _,_=>rfl
theorem Tc(hg:∀a,p a=u->g a=a):∀(xs:Y V),zZ p xs=u->sU g xs=xs
 | [],_=>rfl
 | x::xs,h=>by
  obtain⟨h1,h2⟩:=P2 h;show qT g x::sU g xs=_;rw[Ta hg x h1,Tc hg xs h2]
end
theorem il(hg:∀a,p a=u->g a=a):∀(fs:Y (O×V)),TY p fs=u->(fs.map λe=>(e.1,qT g e.2))=fs
 | [],_=>rfl
 | e::r,h=>by
  obtain⟨h1,h2⟩:=P2 h;rw[yN,Ta hg _ h1,il hg r h2]
theorem sN(hg:∀a,p a=u->g a=a){o:bY}(h:GW p o=u):iZ g o=o:=by
 cases o with
 | list xs=>exact aW bY.list (Tc hg xs h)
 | dict es ep=>exact mX (show aE=u from h)
 | inst c fs=>exact aW (bY.inst c) (il hg fs h)
theorem nW{α:Type}{f:α->V}(h:∀x,sO p (f x)=u):∀(xs:Y α),zZ p (xs.map f)=u
 | []=>rfl
 | x::xs=>by
  show (sO p (f x)&&zZ p (xs.map f))=u;rw[h x,nW h xs];rfl
theorem iZ'(e:aQ):sO p e.v=u:=by cases e<;>rfl
theorem IG(r:dF):sO p r.v=u:=by
 show (u&&(u&&(sO p r.b.v&&(u&&u))))=u;have:sO p r.b.v=u:=by
  cases r.b with
  | i n=>rfl
  | t l=>exact nW (f:=V.int) (λ_=>rfl) l
 rw[this];rfl
theorem CD(i:aI):sO p i.v=u:=by
 cases i with
 | hO ds=>exact nW (f:=λk:O=>V.int k) (λ_=>rfl) ds
 | _=>rfl
theorem Td(o:aG J):sO p (oV o)=u:=by cases o<;>rfl
theorem ja'(f:Fr):GW p f.o=u:=by show (u&&(u&&(u&&(u&&(sO p (oV f.gE)&&(sO p (oV f.Fe)&&(sO p (oV f.eE)&&(u&&u))))))))=u;rw[Td,Td,Td];rfl
theorem Yc(hg:∀a,p a=u->g a=a):∀(fs:Y Fr),(fs.map Fr.o).map (iZ g)=fs.map Fr.o
 | []=>rfl
 | f::fs=>by
  rw[yN,yN,sN hg (ja' f),Yc hg fs]
end
structure wY(B:Y V)(x:X)(H:Hp):Prop where
 ex:∃f,(∀a,DU a=u->f[a]?=Z a)/\iW f (x.hp B []) H
section
variable{B:Y V}{S0:Y V}{r:Hp}
theorem uv{g:O->O}:∀(xs:Y O),(∀k∈xs,g (k+22)=k+22)->sU g (xs.map λk=>V.ref (k+22))=xs.map λk=>V.ref (k+22)
 | [],_=>rfl
 | k::xs,h=>by
  show V.ref (g (k+22))::sU g (xs.map _)=_;rw[h k vG,uv xs λj hj=>h j (tX _ hj)];rfl
theorem fW'(hg:∀a,DU a=u->g a=a)(Q6:g 20=l)(hf:∀k,k<x.aA.length->g (k+22)=k+22):
  (x.hp (Bi.map aI.v) []).map (iZ g)=x.jV (Bi.map aI.v) l (x.R.map aQ.v) []:=by
 unfold X.hp X.jV dT;have hk:iZ g (.list qM)= .list qM:=sN hg rfl;simp only[yN,pH,hk,Yc hg];rw[sN hg (o:=dy) rfl,sN hg (o:=ar) rfl,sN hg (o:=Qu) rfl,sN hg (o:=.list (Bi.map aI.v)) (nW CD _),sN hg (o:=.list (x.aP.map dF.v)) (nW IG _),sN hg (o:=.list (x.R.map aQ.v)) (nW iZ' _),sN hg (o:=.list (x.aH.map .int)) (nW (λ_=>rfl) _)];rw[sN hg (o:=.list [.ref 11]) rfl,sN hg (o:=.list [.ref 12]) rfl,sN hg (o:=.list []) rfl,sN hg (o:=.list [.int 5]) rfl,sN hg (o:=.list [.ref 3,.ref 4,.ref 5,.ref 6]) rfl];have h1:iZ g x.obj=x.TV l:=by
  show bY.inst 10 [(15,.ref (g 0)),(16,.ref (g 12)),(19,.int 4),(8,.int 2),(4,.ref (g 18)),(21,.ref (g 19)),(22,.int x.bV),(23,.ref (g 20)),(24,.int x.aF),(25,.ref (g 21)),(26,.bool x.bH),(27,.int x.cL)]=_;rw[Q6,hg 0 rfl,hg 12 rfl,hg 18 rfl,hg 19 rfl,hg 21 rfl];rfl
 have h2:iZ g (.list ((fX x.aA.length).map λk=>.ref (k+22)))= .list ((fX x.aA.length).map λk=>.ref (k+22)):=aW bY.list (uv _ λk hk=>hf k (Gz.mp hk));rw[h1,h2]
theorem NF:(x.jV B l S0 r).length=x.aA.length+r.length+22:=by show (x.aA.map Fr.o++r).length+22=_;rw[bA,cJ]
theorem fU'{S1:Y V}: x.jV B l S0 r=(x.jV B l S1 []).set 20 (.list S0)++r:=by show x.jV B l S0 r=dT B (_::_::_::_::_::_::_::_::(x.aA.map Fr.o++[]))++r;rw[pH];rfl
theorem T1{i:O}(h:((fX n).set 20 l)[i]?=Z j)(hn:20<n):(i=20/\j=l)\/(i≠20/\i<n/\j=i):=by
 by_cases hi:20=i
 ·rw[<-hi,jZ (by rw[pI];exact hn)]at h
  exact .inl ⟨hi.symm,(aT h).symm⟩
 ·rw[kL hi]at h
  have cQ:=iN h;rw[pI]at cQ;rw[rT cQ]at h;exact .inr ⟨FE hi,cQ,(aT h).symm⟩
theorem km'(hn:20<n)(hl:l=20\/n<=l):((fX n).set 20 l).Nodup:=by refine yr.mpr λi j hi hj qK=>?_;have h1:=T1 (cS hi) hn;have h2:=T1 (cS hj) hn;generalize ((fX n).set 20 l)[i]=a at *;generalize ((fX n).set 20 l)[j]=b at *;have key:∀k,k≠20->k<n->l≠k:=λk k1 k2 e=>hl.elim (λh=>k1 (e▸h)) λh=>tY k (eP k2 (e▸h));exact λq=>h1.elim (λh1=>h2.elim (λh2=>mK qK (h1.1.trans h2.1.symm)) λh2=>key j h2.1 h2.2.1 (h1.2.symm.trans (q.trans h2.2.2))) λh1=>h2.elim (λh2=>key i h1.1 h1.2.1 (h2.2.symm.trans (q.symm.trans h1.2.2))) λh2=>mK qK (h1.2.2.symm.trans (q.trans h2.2.2))
theorem UN(hl:l=20\/x.aA.length+22<=l)(h:(x.jV (Bi.map aI.v) l S0 r)[l]?=Z (.list (x.R.map aQ.v))):wY (Bi.map aI.v) x (x.jV (Bi.map aI.v) l S0 r):=by
 have hn:20<x.aA.length+22:=eP (by decide:20<22) (dL ..);have YC:∀i,i<x.aA.length+22->i≠20->((fX (x.aA.length+22)).set 20 l)[i]?=Z i:=λi hi Q6=>by
  rw[kL (FE Q6),rT hi]
 have f20:((fX (x.aA.length+22)).set 20 l)[20]?=Z l:=jZ (by rw[pI];exact hn);have far:∀i,i<22->i<x.aA.length+22:=λi hi=>eP hi (dL ..);have dE:(x.jV (Bi.map aI.v) l S0 r).length=x.aA.length+r.length+22:=NF;have YM:∀a,DU a=u->((fX (x.aA.length+22)).set 20 l)[a]?=Z a:=λa ha=>by
  obtain⟨h1,h2⟩:=P2 ha;exact YC a (far a (Vj h1:a<22)) (λq=>by rw[q]at h2;exact mX h2)
 refine⟨(fX (x.aA.length+22)).set 20 l,YM,?_,km' hn hl,λi j qK=>?_⟩;rw[zQ,mI,pI];rfl;have hom:=fW' (x:=x) (l:=l) (Bi:=Bi) (g:=fN ((fX (x.aA.length+22)).set 20 l) (x.jV (Bi.map aI.v) l S0 r).length)
  (λa ha=>by unfold fN;rw[YM a ha])
  (by unfold fN;rw[f20])
  (λk hk=>by unfold fN;rw[YC (k+22) (sX hk 22) (λq=>by lia)])
 have hL:∀i,((x.hp (Bi.map aI.v) [])[i]?).map (iZ (fN ((fX (x.aA.length+22)).set 20 l) (x.jV (Bi.map aI.v) l S0 r).length))=(x.jV (Bi.map aI.v) l (x.R.map aQ.v) [])[i]?:=λi=>by rw[<-fJ,hom]
 rw[hL];rcases T1 qK hn with⟨h1,h2⟩|⟨h1,h2,h3⟩
 ·rw[h1,h2]
  exact⟨iN h,h⟩
 ·rw[h3]
  refine⟨by rw[dE];exact eP h2 (dP (bU ..) 22),?_⟩;rw[fU' (S1:=x.R.map aQ.v),gO (by rw[mI,NF];exact h2),kL (FE h1)]
theorem UO: wY (Bi.map aI.v) x (x.hp (Bi.map aI.v) r):=UN (l:=20) (.inl rfl) rfl
end
theorem Bf{f:Y O}(h:f[k]?=Z j):fN f n k=j:=by unfold fN;rw[h]
theorem Cv{f:Y O}(h:f.length<=k):fN f n k=n+(k-f.length):=by unfold fN;rw[lF h]
mutual
theorem Uz{f g k:O->O}(h:∀i,f (g i)=k i):∀(v:V),qT f (qT g v)=qT k v
 | .none=>rfl
 | .bool _=>rfl
 | .int _=>rfl
 | .str _=>rfl
 | .aM xs=>aW V.aM (U0 h xs)
 | .ref a=>aW V.ref (h a)
 | .g _=>rfl
 | .gG _ _=>rfl
theorem U0{f g k:O->O}(h:∀i,f (g i)=k i):∀(xs:Y V),sU f (sU g xs)=sU k xs
 | []=>rfl
 | x::xs=>by
  show qT f (qT g x)::sU f (sU g xs)=_;rw[Uz h x,U0 h xs];rfl
end
theorem jb'{f k:O->O}(h:∀i,f (g i)=k i)(o:bY):iZ f (iZ g o)=iZ k o:=by
 cases o with
 | list xs=>exact aW bY.list (U0 h xs)
 | dict es ep=>
  refine aW (λl=>bY.dict l ep) ((Gy ..).trans (aW (λq=>es.map q) (funext λe=>?_)));exact aW (λv=>(e.1,v)) (Uz h e.2)
 | inst c fs=>
  refine aW (bY.inst c) ((Gy ..).trans (aW (λq=>fs.map q) (funext λe=>?_)));exact aW (λv=>(e.1,v)) (Uz h e.2)
theorem Cf.pos{f:Y O}{L h':Hp}(b:Cf f H L' h')(s:iW f L H){j:O}(hj:j<L'.length):fN f H.length j<h'.length/\h'[fN f H.length j]?=(L'[j]?).map (iZ (fN f H.length)):=by
 by_cases hf:j<f.length
 ·have e:=cS hf
  rw[Bf e,b.len];exact⟨eP (s.fK _ _ e).1 (bU ..),b.fK _ _ e⟩
 ·have hf:=sY hf
  rw[Cv hf,b.len];refine⟨yO (Nat.sub_lt_sub_right hf hj) _,?_⟩;rw[b.new,JA hf]
theorem iW.tI{f g:Y O}{L h' M:Hp}(s:iW f L H)(b:Cf f H L' h')(t:iW g M L')(hl:f.length<=L'.length):iW (g.map (fN f H.length)) M h':=by
 have inj:∀i j,i<L'.length->j<L'.length->fN f H.length i=fN f H.length j->i=j:=λi j hi hj e=>by
  by_cases h1:i<f.length
  ·have e1:=cS h1
   rw[Bf e1]at e;by_cases h2:j<f.length
   ·have e2:=cS h2
    rw[Bf e2]at e;exact (O9 h1 s.nd).mp (e1.trans ((aW Z e).trans e2.symm))
   ·rw[Cv (sY h2)]at e
    exact absurd (s.fK _ _ e1).1 (kU.mpr (aL (bU ..) (dH e.symm)))
  ·rw[Cv (sY h1)]at e
   by_cases h2:j<f.length
   ·have e2:=cS h2
    rw[Bf e2]at e;exact absurd (s.fK _ _ e2).1 (kU.mpr (aL (bU ..) (dH e)))
   ·rw[Cv (sY h2)]at e
    exact n8 e h1 h2
 refine⟨t.len.trans (cJ _).symm,?_,λi eV e=>?_⟩
 ·refine yr.mpr λi j hi hj qK q=>?_
  rw[cJ]at hi hj;rw[ye,ye]at q;have e1:=cS hi;have e2:=cS hj;have:=inj _ _ (t.fK _ _ e1).1 (t.fK _ _ e2).1 q;exact tY i (G3 qK ((O9 hi t.nd).mp (e1.trans ((aW Z this).trans e2.symm))).symm)
 ·rw[fJ]at e
  obtain⟨j,e1,e2⟩:=Ca.mp e;obtain⟨h1,h2⟩:=t.fK _ _ e1;obtain⟨h3,h4⟩:=b.pos s h1;rw[<-e2];refine⟨h3,h4.trans ?_⟩;rw[h2,Vs];refine aW (λq=>Vr q M[i]?) (funext λo=>jb' (λk=>?_) o);by_cases hk:k<g.length
  ·have e3:=cS hk
   rw[Bf e3,Bf (f:=g.map (fN f H.length)) (j:=fN f H.length g[k]) (by rw[fJ,e3];rfl)]
  ·have hk:=sY hk
   rw[Cv hk,Cv (f:=f) (aL hl (bU ..)),Cv (f:=g.map (fN f H.length)) (by rw[cJ];exact hk),b.len,cJ,Nat.sub_add_comm hl,gC]
theorem wY.tI{B:Y V}{f:Y O}{h':Hp}(t:wY B y L')(hf:∀a,DU a=u->f[a]?=Z a)(s:iW f (x.hp B []) H)(b:Cf f H L' h')(hl:(x.hp B []).length<=L'.length):wY B y h':=by obtain⟨g,hg,t⟩:=t.ex;exact⟨g.map (fN f H.length),λa ha=>by rw[fJ,hg a ha];exact aW Z (Bf (hf a ha)),s.tI b t (s.len▸hl)⟩
noncomputable def LA:aG bD->Y bD
 | some (.cP _ b _)=>b
 | _=>[]
section
variable{B:Y V}{r:Hp}{Q:PE}
theorem Ar{v:V}{Q:V->Prop}(q:Q v):bZ (Au G (.aM (v::xs)) 0 H) Q:=by refine .of (x:=v) ?_ q;show bE (kQ 0 (xs.length+1)) _=_;rw[show kQ 0 (xs.length+1)=Z 0 from tP (k:=0) (BP _)];rfl
theorem ng{c:J}{o v:V}{K:PS}{n:J}(hn:(if (c==2||(c==3||(c==4||false)))=u then x.cL+1 else if c=11 then x.cL-1 else x.cL)=n)(k:∀I,K (.ret .none) I (X.hp B {x with cL:=n} r)):
  bQ (cx sc) (Cl sc d) (LA QD[1]?) [Z (.ref 17),Z v,Z (.int c),aB] (x.hp B r) K:=by
 refine fU (λh=>?_) λh=>fU (λh2=>?_) λh2=>?_
 ·rw[aZ h]at hn
  rw[<-hn]at k;exact k _
 ·rw[aR (rS.mp h),aZ (kB.mp h2)]at hn
  rw[<-hn]at k;exact k _
 ·rw[aR (rS.mp h),aR (λq=>jB.mp h2 q)]at hn
  rw[<-hn]at k;exact k _
theorem mo'{i:aI}(fL:x.tT i=aE->bQ (cx sc) (Cl sc d) (QD.drop 2) [Z (.ref 17),Z i.v,Z (.int i.code),aB] (x.hp B r) λfl _ h1=>Q (gT fl) h1)(Zy:x.tT i=u->Q .none ((x.skip i).hp B r)):Wf sc (d+1) 51 [.ref 17,i.v] (x.hp B r) Q:=by
 refine cF rfl rfl (Ar ?_);obtain⟨aP,aH,bV,R,aF,aA,bH,cL⟩:=x;cases bH with
 | true=>exact fL rfl
 | false=>
  refine fU (λh=>?_) λh=>?_;exact oY h (ng (x:=⟨aP,aH,bV,R,aF,aA,aE,cL⟩) (o:=.none) rfl λ_=>Zy (by unfold X.tT;exact aW (λb=>u&&b||_) h))
  ·have h':decide (cL>0)=aE:=h
   refine fU (λh2=>?_) λh2=>?_
   ·exact (ng (x:=⟨aP,aH,bV,R,aF,aA,aE,cL⟩) (o:=.none) rfl λ_=>Zy (by
     show (u&&decide (cL>0)||true && !(i.code==5||(i.code==11||false)))=u;rw[h'];exact h2))
   ·exact fL (by
     show (u&&decide (cL>0)||true && !(i.code==5||(i.code==11||false)))=aE;rw[h'];exact h2)
end
section
variable{c:J}
theorem eG': (x.dX op e1 e2).aA=x.aA:=by unfold X.dX;split;rfl;exact X.xZ.2
theorem eF': (x.kI e).aA=x.aA:=by
 unfold X.kI;cases e with
 | num n=>
  unfold X.Gi X.uY;dsimp only;repeat' (first|rfl|split)
  exact X.kc
 | pl s=>
  show ((x.dB 3).jP 3).aA=_;rw[X.Jn,X.sR]
theorem YR:∀{ps:Y (J×J)} {x:X},(mU x ps).aA.length=x.aA.length
 | [],x=>rfl
 | p::r,x=>(YR (x:=qR x p)).trans (UY (x:=x) (p:=p) ⟨0,0,0,0,0,0,0⟩).1.1
theorem YQ:∀{ds:Y O} {t:TS},(t.gJ ds).x.aA.length=t.x.aA.length
 | [],t=>rfl
 | p::r,t=>(YQ (t:=t.step p)).trans (TS.K4 (t:=t) (dd:=p) (a:=⟨0,0,0,0,0,0,0⟩)).1.1
theorem Qt{code:J}: x.aA.length<=(x.eG code n r bB).aA.length:=by
 unfold X.eG X.DT;split
 ·show _<=((x.dB x.R.length).aA++[_]).length
  rw[bA,X.sR];exact bU ..
 ·show _<=((x.dB x.R.length).aA++[_]).length
  rw[bA,X.sR];exact bU ..
theorem ev'{cT n:J}: (x.gZ k f aD cT op n c).aA.length=x.aA.length:=by unfold X.gZ;dsimp only;split;exact (aW pZ X.EJ.2).trans X.sI.3;exact ((aW pZ X.zW.2).trans (aW pZ X.EJ.2)).trans X.sI.3
theorem ex': x.aA.length<=(x.DD op i c n r bB).aA.length:=by unfold X.DD;rw[X.EJ.2];show _<=((x.eG 4 n r bB).aA.set _ _).length;rw[mI];exact Qt
theorem Qs{le:J}{el hp:O}: (x.Ac k f le el hp).aA.length=x.aA.length:=by
 unfold X.Ac X.zH;show ((X.dS _ _).aA.set _ _).length=_;rw[mI];show (X.aA (if x.bH then _ else x)).length=_;split
 ·show ((x.dB x.R.length).aA.set _ _).length=_
  rw[mI,X.sR]
 ·rfl
theorem Md{fe hp:O}: (x.Cu f fe hp).aA=x.aA.dropLast/\(x.Cu f fe hp).R=X.eB hp:=by
 have h:∀y:X,y.vP.aA=y.aA/\y.vP.R=y.R:=λy=>by
  unfold X.vP;split<;>exact⟨rfl,rfl⟩
 unfold X.Cu;refine⟨(h _).1.trans ?_,(h _).2⟩;show (X.vQ _ _ _).aA=_;have h3:x.iA.uK.aA=x.aA.dropLast:=by
  unfold X.uK;split;rw[X.sR];rfl;rfl
 have h2:(x.iA.uK.Ae f.eE).aA=x.aA.dropLast:=by
  cases f.eE<;>exact h3
 unfold X.vQ;split<;>exact h2
theorem Arg.bn:∀{b:Arg},b.GJ->b= .i b.n
 | .i _,_=>rfl
theorem jw:x.pop.R.length=x.R.length-1:=iR ..
theorem Xi(ok:uC x dd):A6 (x.aA[cO x dd]?=Z (x.kE dd)) (cO x dd+dd+1=x.aA.length) ((x.kE dd).aD=((x.kE dd).aD.toNat:O)) ((x.kE dd).cT=Z ((x.kE dd).cT.getD 0)) ((x.kE dd).aD.toNat<=x.R.length) ((x.kE dd).aD.toNat<=2):=by
 have cQ:=ok.lt;have hk:=cS (l:=x.aA) (i:=cO x dd) (n1 cQ);obtain⟨⟨cT,hl⟩,m0,m1,m2⟩:=ok.fK _ hk;have hD:x.kE dd=x.aA[cO x dd]'(n1 cQ):=by unfold X.kE;rw[hk];rfl
 rw[hD];exact⟨hk,n2 cQ,(pG m0).symm,by rw[hl];rfl,m1,E4.mpr m2⟩
theorem cm(h:1<=x.aA.length):x.aA[x.aA.length-1]?=Z x.bF:=by obtain⟨f,hf⟩:=tL (l:=x.aA) h;unfold X.bF;rw[hf,<-CU,hf];rfl
theorem ew': (x.AY e ds).aA.length=x.aA.length:=by unfold X.AY;show (mU _ _).aA.length=_;rw[YR];show (TS.gJ _ ds).x.aA.length=_;rw[YQ];exact aW pZ X.xZ.2
theorem eS'{a r:Y α}{o p:α}(h:a.length=k):(a++o::p::r)[k+1]?=Z p:=by rw[oP (by rw[h];exact nC _),h,wQ];rfl
end
section
variable{Q:PE}
theorem mn'{i:aI}(hc:x.D3 i)(q:∀H',wY (Bi.map aI.v) (x.take i 0) H'->(x.hp (Bi.map aI.v) []).length<=H'.length->Q .none H'):Wf sc (d+8) 51 [.ref 17,i.v] (x.hp (Bi.map aI.v) []) Q:=by
 obtain⟨hz,lC,nH⟩:=hc;have lJ:x.size<90000:=X.qc hz (cE _);unfold X.take at q;refine mo' (λhs=>?_) λhs=>?_
 rotate_left
 ·rw[aZ hs]at q
  exact q _ UO (cE _)
 rw[aR (rS.mp hs)]at q;have nH:=nH hs;clear hs;have aS:x.aA.length<=(x.Ab i 0).aA.length->∀r',Q .none ((x.Ab i 0).hp (Bi.map aI.v) r'):=λh r'=>q _ UO (by rw[zQ,zQ];exact dP (aL h (bU ..)) 22);cases i with
 | const n=>exact ld' (bT lJ (by decide)) n (aS (cE _) _)
 | get n=>exact lS' (bT lJ (by decide)) n (aS (cE _) _)
 | set n=>exact lT' (yC nH) (bT hz (by decide)) n lC (aS (dH (aW pZ (X.A2 (x:=x.pop)).2.symm)) _)
 | mF n=>exact lU' (yC nH) (bT hz (by decide)) n lC (aS (dH (aW pZ (X.A2 (x:=x.pop)).2.symm)) _)
 | drop=>exact le' (yC nH) (aS (cE _) _)
 | kI=>
  have h3:3<=x.R.length:=nH;exact mk' (yC (aL (by decide) h3)) (yC (x:=x.pop) (by rw[jw];exact LZ (aL (by decide) h3))) h3 (bT lJ (by decide)) (aS (dH (aW pZ eF'.symm)) _)
 | br dd=>
  obtain⟨h1,h2,h3,h4,h5,h6⟩:=Xi nH;exact kW' h1 h2 h3 h4 h5 (eP (qA lJ h6) (by decide)) (aS (dH (((aW pZ X.zW.2).trans X.sI.3).symm)) _)
 | gZ dd=>
  obtain⟨hl,ok,hI⟩:=nH;obtain⟨h1,h2,h3,h4,h5,h6⟩:=Xi ok;have Fz:(x.pop.dC x.cD).1.aA=x.aA:=X.Fj.2;have RV:(x.pop.dC x.cD).1.kE dd=x.pop.kE dd:=by
   unfold X.kE cO;rw[Fz];rfl
  have Bo:cO (x.pop.dC x.cD).1 dd=cO x.pop dd:=by unfold cO;rw[Fz];rfl
  have aS:x.aA.length<=((x.pop.dC x.cD).1.Fg dd (x.pop.dC x.cD).2).aA.length->∀r',Q .none (((x.pop.dC x.cD).1.Fg dd (x.pop.dC x.cD).2).hp (Bi.map aI.v) r'):=aS;unfold X.Fg at aS;rw[RV,Bo]at aS;exact kX' (yC hl) lC (by rw[<-Arg.bn hI]) h1 h2 h3 h4 h5 (eP (qA lJ h6) (by decide)) (aS (dH ((ev'.trans (aW pZ Fz)).symm)))
 | hO ds=>
  obtain⟨hl,ok,hn⟩:=nH;exact kY' (yC hl) ok (aL hn (by decide)) (bT lJ (by decide)) (aS (dH (ew' (x:=x.pop)).symm))
 | ret=>
  obtain⟨h2,hf⟩:=nH;have hk:x.aA[0]?=Z (x.aA[0]?.getD X.Cz):=by
   rw[cS hf];rfl
  exact mg' hk h2 (bT lJ (by decide)) (aS (dH (aW pZ X.zW.2.symm)) _)
 | qS=>exact mq' (bT lJ (by decide)) (aS (cE _) _)
 | pA=>exact mb' (aS (cE _) _)
 | dX op=>
  obtain⟨hl,gX⟩:=nH;have go:=mp' (sc:=sc) (d:=d+4) (r:=[]) (B:=Bi.map aI.v) (Q:=λ_ h=>Q .none h) (yC (x:=x) (aL (by decide) hl)) (yC (x:=x.pop) (by rw[jw];exact LZ hl)) (bT lJ (by decide)) op (aS (dH (aW pZ (eG' (x:=x.pop.pop) (op:=op) (e1:=x.pop.cD) (e2:=x.cD)).symm)) _);clear q aS hl hz lJ lC;simp only[jL,oE,nA,D0]at gX;rcases gX with rfl|rfl|rfl|rfl|rfl|rfl|rfl<;>exact cF rfl rfl go
 | jQ=>
  exact cF rfl rfl (mc' (yC nH) (bT lJ (by decide)) 69 (aS (dH (aW pZ (X.xZ (x:=x.pop) (e:=x.cD) (h:=x.pop.R.length)).2.symm)) _))
 | call=>exact lb' nH (bT lJ (by decide)) (aS (dH (aW pZ ((X.OC.2.1.trans (by show ((x.dB 2).jP 2).aA=_;rw[X.Jn,X.sR])).symm))))
 | block m=>
  obtain⟨p,hp⟩:=rV.mp nH;have xL:X.io m=p:=by unfold X.io;rw[hp];rfl
  have aS:x.aA.length<=(x.eG 2 (X.io m).1 (X.io m).2 0).aA.length->∀r',Q .none ((x.eG 2 (X.io m).1 (X.io m).2 0).hp (Bi.map aI.v) r'):=aS;rw[xL]at aS;exact lm hp (bT hz (by decide)) (aS Qt _)
 | loop m=>
  obtain⟨p,hp⟩:=rV.mp nH;have xL:X.io m=p:=by unfold X.io;rw[hp];rfl
  have aS:x.aA.length<=(x.eG 3 (X.io m).1 (X.io m).2 0).aA.length->∀r',Q .none ((x.eG 3 (X.io m).1 (X.io m).2 0).hp (Bi.map aI.v) r'):=aS;rw[xL]at aS;exact lm hp (bT hz (by decide)) (aS Qt _)
 | iff m=>
  obtain⟨hl,hm,hI⟩:=nH;obtain⟨p,hp⟩:=rV.mp hm;have xL:X.io m=p:=by unfold X.io;rw[hp];rfl
  have Fz:(x.pop.dC x.cD).1.aA=x.aA:=X.Fj.2;have aS:x.aA.length<=((x.pop.dC x.cD).1.rK (x.pop.dC x.cD).2 (X.io m) 0).aA.length->∀r',Q .none (((x.pop.dC x.cD).1.rK (x.pop.dC x.cD).2 (X.io m) 0).hp (Bi.map aI.v) r'):=aS;unfold X.rK at aS;rw[xL]at aS;exact lv' (yC hl) lC (by rw[<-Arg.bn hI]) hp (bT hz (by decide)) (aS (aL (dH (aW pZ Fz.symm)) ex') _)
 | dG=>
  obtain⟨h1,h2,⟨el,h3,h4⟩,h5,h6⟩:=nH;obtain⟨le,nK⟩:=rV.mp h2;have jK:=cm h1;have he:x.EM x.bF=x.Ac (x.aA.length-1) x.bF le el (x.bF.bP+x.bF.params).toNat:=by
   unfold X.EM;rw[nK,h3];rfl
  have q:∀H',wY (Bi.map aI.v) (x.EM x.bF) H'->(x.hp (Bi.map aI.v) []).length<=H'.length->Q .none H':=q;rw[he]at q;refine lf' jK (a9 h1).symm nK h3 h4 (pG h5).symm ((yK h5).mpr h6) (bT hz (by decide)) λS0=>q _ (UN (.inr ?_) (Zi ?_)) ?_;rw[Qs,zQ];exact cE _;rw[Qs,zQ];rw[zQ,NF,Qs];exact dP (eR (nD _) _) 22
 | aS=>
  obtain⟨h1,⟨fe,h2,h3⟩,h4,h5,h6⟩:=nH;have he:x.Af x.bF=x.Cu x.bF fe (x.bF.bP+x.bF.gS).toNat:=by
   unfold X.Af;rw[h2];rfl
  have q:∀H',wY (Bi.map aI.v) (x.Af x.bF) H'->(x.hp (Bi.map aI.v) []).length<=H'.length->Q .none H':=q;rw[he]at q;refine lh' (k:=x.aA.length-1) (cm h1) (a9 h1).symm (bT hz (by decide)) (pG h5).symm ((yK h5).mpr h6) h2 h3 h4 λS0=>q _ (UN (.inr ?_) ?_) ?_;rw[Md.1,iR];exact dP (bU ..) 22
  ·rw[Md.2]
   exact eS' (a:=(x.Cu x.bF fe (x.bF.bP+x.bF.gS).toNat).aA.map Fr.o) (by rw[cJ,Md.1,iR])
  ·rw[zQ,NF,Md.1,iR]
   exact dP (show x.aA.length<=x.aA.length-1+3 from aL (dH (jH h1).symm) (eR (by decide) _)) 22
end
theorem HH.gb{l:J}(h:HH aH l):∃p:O,wA aH l=p:=by obtain⟨_,p,hp⟩:=h;exact⟨p,by unfold wA;rw[hp];rfl⟩
theorem Ch.go(ok:Ch aP aH){r:dF}(hr:r∈aP)(h:r.op=259):HH aH r.a:=by refine (ok r hr).1 r.a ?_;unfold dF.B7;rw[h];exact iU.mpr rfl
set_option tactic.hygienic true in
theorem tr{aP:Y dF}{aH:Y J}(ok:Ch aP aH){p:O}:∀n,∃q:O,En aP aH n p=q
 | 0=>⟨p,rfl⟩
 | n+1=>by
  obtain⟨q,hq⟩:=tr ok (p:=p) n;show ∃q:O,Ep aP aH (En aP aH n p)=q;rw[hq];unfold Ep;split
  ·rename_i r hr
   split
   ·rename_i gX
    exact (ok.go (oF hr) gX).gb
   ·exact⟨q,rfl⟩
  ·exact⟨q,rfl⟩
def hr(aP:Y dF)(aH:Y J)(r:Hp):Hp:=.list (aP.map dF.v):: .list (aH.map .int)::r
section
variable{Q:PE}{r:Hp}{lb:J}
theorem ah{Q:V->Prop}(h:HH aH lb)(q:Q (.int (wA aH lb))):bZ (BX (aH.map .int) lb) Q:=by obtain⟨h0,p,hp⟩:=h;rw[show wA aH lb=p by unfold wA;rw[hp];rfl]at q;rw[<-pG h0];exact uS (zS (iN hp)) (pT hp) q
theorem Wu{t:aC}{P:aC->Prop}(k:P (b&&t)):cW (!b) (P b) (P t):=by cases b<;>exact k
theorem ly'(q:Q (.bool (vZ op)) H):Wf sc (d+1) 21 [.int op] H Q:=by
 unfold vZ at q;refine cF rfl rfl (fU (λh=>?_) λh=>fU (λh1=>fU (λh2=>?_) λh2=>?_) λh1=>?_)
 ·have h:oM op [259,260,261]=u:=h
  show Q (.bool (oM op [259,260,261])) H;rw[h]at q ⊢;exact q
 ·have h:oM op [259,260,261]=aE:=h
  have h2:decide (op<16384)=u:=h2;have h1:decide (4096<=op)=u:=h1;show Q (.bool (decide (op<16384))) H;rw[h,h1,h2]at q;rw[h2];exact q
 ·have h:oM op [259,260,261]=aE:=h
  have h2:decide (op<16384)=aE:=h2;have h1:decide (4096<=op)=u:=h1;rw[h,h1,h2]at q;exact Wu (P:=λb=>Q (.bool b) H) q
 ·have h:oM op [259,260,261]=aE:=h
  have h1:decide (4096<=op)=aE:=h1;rw[h,h1]at q;exact Wu (P:=λb=>Q (.bool b) H) q
theorem ni(ok:Ch aP aH)(h:HH aH lb)(q:Q (.int (Df aP aH lb)) (hr aP aH r)):Wf sc (d+1) 22 [.ref 0,.ref 1,.int lb] (hr aP aH r) Q:=by
 obtain⟨p,hp⟩:=h.gb;unfold Df at q;refine cF rfl rfl (ah h ?_);rw[hp]at q ⊢;refine GP (n:=8) rfl (λn I H=>fQ (λv=>I=[Z (.ref 0),Z (.ref 1),Z (.int lb),Z (.int (En aP aH n p)),v]) (λ_=>H=hr aP aH r)) ⟨_,rfl,rfl⟩ (λI h j=>?_) λn I H hn j go fL=>?_
 ·obtain⟨v,e1,e2⟩:=j
  rw[e1,e2];exact q
 ·obtain⟨v,e1,e2⟩:=j
  rw[e1,e2];obtain⟨m,hm⟩:=tr ok (p:=p) n;have aS:∀i:J,Ep aP aH m=i->go [Z (.ref 0),Z (.ref 1),Z (.int lb),Z (.int i),Z (.int (n:O))] (hr aP aH r):=λi hi=>fL _ _ ⟨_,by rw[show En aP aH (n+1) p=i from (aW (Ep aP aH) hm).trans hi],rfl⟩;unfold Ep at aS;rw[Gv]at aS;rw[hm];refine AW (λh1=>?_) λh1=>?_
  ·have h1: ¬ (m:J)<((aP.map dF.v).length:J):=AQ h1
   exact aS _ (by rw[lF (by rw[kH]at h1;exact fV.mp (oD.mp h1))])
  ·have h1:(m:J)<((aP.map dF.v).length:J):=fY h1
   rw[kH]at h1;have h1:=eZ.mp h1;have hk:=cS h1;rw[hk]at aS;refine uS (zS h1) (pT hk) (fU (λh2=>?_) λh2=>?_)
   ·have h2:aP[m].op=259:=kB.mp h2
    exact uS (zS h1) (pT hk) (ah (ok.go (AO _) h2) (aS _ (aZ h2)))
   ·exact aS _ (aR (jB.mp h2))
end
section
variable{Q:PE}
theorem XU{xs:Y α}{f:α->V}{g:α->aG V}(h1:∀k,zY it k H=Z (xs.map f)[k]?)(hz:xs.length<aF)
  (ht:∀x∈xs,∀q,q (g x) H->gK (f x) H q) (k:Q (.ref H.length) (H++[.list (xs.filterMap g)])):oB (Aa gK it Q) (0,[],H):=by
 refine⟨xs.length,λm s=>m+s.1=xs.length/\s.2.1=(xs.take s.1).filterMap g/\s.2.2=H,⟨rfl,rfl,rfl⟩,λm s hs=>?_⟩;obtain⟨j,acc,h⟩:=s;obtain⟨e1,e2,e3⟩:=hs;have e2:acc=(xs.take j).filterMap g:=e2;have e3:h=H:=e3;rw[e3];cases m with
 | zero=>
  have ej:j=xs.length:=(nQ j).symm.trans e1;rw[ej,CV]at e2;rw[e2];exact .of (x:=aB) ((h1 j).trans (aW Z (lF (by rw[cJ,ej];exact cE _)))) k
 | succ m=>
  have hj:j<xs.length:=e1▸PJ (BP m);have en:=(Lc m j).symm.trans e1;have hx:=cS hj;have er:(xs.take (j+1)).filterMap g=acc++(match g xs[j] with|some v=>[v]|none=>[]):=by
   rw[Im hx,xy,e2,LV,xz];cases g xs[j]<;>rfl
  refine .of ((h1 j).trans (aW Z (pT hx))) (ht _ (AO hj) _ ?_);cases hg:g xs[j] with
  | none=>
   rw[hg]at er;exact⟨m,iB m,en,(pH acc).symm.trans er.symm,rfl⟩
  | some v=>
   rw[hg]at er;refine⟨?_,m,iB m,en,er.symm,rfl⟩;show acc.length<aF;rw[e2];exact cM (Vb ..) (cM (PA ..) hz)
theorem QO{xs:Y α}{f:α->V}(g:α->V)(h1:∀k,zY it k H=Z (xs.map f)[k]?)(hz:xs.length<aF)
  (ht:∀x∈xs,∀q,q (Z (g x)) H->gK (f x) H q) (k:Q (.ref H.length) (H++[.list (xs.map g)])):oB (Aa gK it Q) (0,[],H):=
 XU (g:=λx=>Z (g x)) h1 hz ht (by rw[show xs.filterMap (λx=>Z (g x))=xs.map g from congrFun List.filterMap_eq_map xs];exact k)
end
theorem Arg.gM':∀{b:Arg},b.Sb->b= .t b.l
 | .t _,_=>rfl
section
variable{Q:PE}{r:Hp}
theorem mf'(ok:Ch aP aH)(hz:aP.length<99999)(q:∀g,Q (.ref 2) (hr aP aH (.list ((BA aP aH).map dF.v)::g))):Wf sc (d+2) 23 [.ref 0,.ref 1] (hr aP aH []) Q:=by
 refine cF rfl rfl (GO aP.length (λn I H=>∃o3 o4 o5 o6 o7 g,I=[Z (.ref 0),Z (.ref 1),Z (.ref 2),o3,o4,o5,o6,o7]/\H=hr aP aH (.list (((aP.take n).map (A9 aP aH)).map dF.v)::g)) ?_ ?_ ?_);exact⟨aB,aB,aB,aB,aB,[],rfl,rfl⟩
 ·intro I H j
  obtain⟨o3,o4,o5,o6,o7,g,e1,e2⟩:=j;rw[e1,e2,CV];exact⟨TU rfl (dH (cJ _)),q g⟩
 ·intro n I H hn j go fL
  obtain⟨o3,o4,o5,o6,o7,g,e1,e2⟩:=j;rw[e1,e2];have hk:=cS hn;have vW:=ok _ (AO hn);rw[Im hk]at fL;generalize aP[n]=w at *;have hl:(((aP.take n).map (A9 aP aH)).map dF.v).length<100000:=by
   rw[cJ,cJ];exact cM (PA ..) (bT hz (by decide))
  have aS:∀(v:V) o3 o4 o5 o6 o7 g,v=(A9 aP aH w).v->go [Z (.ref 0),Z (.ref 1),Z (.ref 2),o3,o4,o5,o6,o7] (hr aP aH (.list (((aP.take n).map (A9 aP aH)).map dF.v++[v])::g)):=λv o3 o4 o5 o6 o7 g e=>fL _ _ ⟨o3,o4,o5,o6,o7,g,rfl,by rw[e,zT,zT]⟩;unfold A9 at aS;unfold dF.B7 at vW;refine⟨_,TT rfl (pT hk) rfl,ly' (fU (λh=>?_) λh=>?_)⟩
  ·rw[aZ h]at aS vW
   exact ni ok (vW.1 _ (iU.mpr rfl)) (oS hl (aS _ _ _ _ _ _ _ rfl))
  ·rw[aR (rS.mp h)]at aS vW
   refine fU (λh2=>?_) λh2=>?_
   ·have h2:w.op=262:=kB.mp h2
    rw[aZ h2]at aS vW;have hb:=Arg.gM' (vW.2 h2).1;have dE:=(vW.2 h2).2;obtain⟨op,a,b,c⟩:=w;dsimp only at hb dE aS vW h2;generalize b.l=l at *;rw[hb]at hk ⊢;refine QO (xs:=l) (f:=V.int) (λl=>.int (Df aP aH l)) (λk=>rfl) (bT dE (by decide)) (λx hx q hq=>ni ok (vW.1 x hx) hq) (Oe eA ?_);exact oS hl (aS _ _ _ _ _ _ _ (aW (λz=>V.aM [.int op,.int a,V.aM z,.int c]) (Gy (f:=Df aP aH) (g:=V.int) (l:=l)).symm))
   ·have h2:w.op≠262:=jB.mp h2
    rw[aR h2]at aS;exact oS hl (aS _ _ _ _ _ _ _ rfl)
end
structure Seen(Bi:Y aI)(x:X)(H:Hp):Prop where
 m:jO (λK=>H[0]?=Z (.inst 13 K))
 fn:H[12]?=Z Qu
 body:H[13]?=Z (.list (Bi.map aI.v))
 obj:jO (λl=>H[17]?=Z (x.TV l))
 aP:H[18]?=Z (.list (x.aP.map dF.v))
 aH:H[19]?=Z (.list (x.aH.map .int))
theorem wY.UE(s:wY (Bi.map aI.v) x H):Seen Bi x H:=by
 obtain⟨f,hf,s⟩:=s.ex;have hg:∀a,DU a=u->fN f H.length a=a:=λa ha=>Bf (hf a ha);have fK:∀{a:O} {o:bY},DU a=u->(x.hp (Bi.map aI.v) [])[a]?=Z o->GW DU o=u->H[a]?=Z o:=λ{a o} ha ho hk=>by
  rw[(s.fK a a (hf a ha)).2,ho,FH,sN hg hk]
 refine⟨⟨_,fK (a:=0) rfl rfl rfl⟩,fK (a:=12) rfl rfl rfl,fK (a:=13) rfl rfl (nW CD _),⟨fN f H.length 20,?_⟩,fK (a:=18) rfl rfl (nW IG _),fK (a:=19) rfl rfl (nW (λ_=>rfl) _)⟩;rw[(s.fK 17 17 (hf 17 rfl)).2];show Z (bY.inst 10 [(15,.ref (fN f H.length 0)),(16,.ref (fN f H.length 12)),(19,.int 4),(8,.int 2),(4,.ref (fN f H.length 18)),(21,.ref (fN f H.length 19)),(22,.int x.bV),(23,.ref (fN f H.length 20)),(24,.int x.aF),(25,.ref (fN f H.length 21)),(26,.bool x.bH),(27,.int x.cL)])=_;rw[hg 0 rfl,hg 12 rfl,hg 18 rfl,hg 19 rfl,hg 21 rfl];rfl
theorem wY.mod(s:wY (Bi.map aI.v) x H):∀i,i<14->H[i]?=(dT (Bi.map aI.v) [])[i]?:=λi hi=>by obtain⟨f,hf,s⟩:=s.ex;have e:=cS (l:=dT (Bi.map aI.v) []) hi;have ok:(dT (Bi.map aI.v) []).all (GW DU)=u:=(LN _).trans (nW CD _);rw[(s.fK i i (hf i ((by decide:∀i,i<14->DU i=u) i hi))).2,show (x.hp (Bi.map aI.v) [])[i]?=_ from (gO (l₁:=dT (Bi.map aI.v) []) hi).trans e,FH,sN (λa ha=>Bf (hf a ha)) (yL.mp ok _ (AO hi)),e]
section
variable{Q:PE}
variable{c a m:O}{v:V}
theorem BY{Q:V->Prop}(e:H[l]?=Z (.inst c fs))(hd:G.qF c a=u)(hv:lW fs a=Z v)(q:Q v):bZ (HM G (.ref l) a H) Q:=by refine .of (x:=v) ?_ q;show bE (bE H[l]? B3) _=_;rw[e];exact (pC hd).trans hv
theorem Ud{Q:xA->Prop}(e:H[l]?=Z (.inst c fs))(ht:Uc G m (.inst c fs)=Z (.H7 c))(q:Q (.H7 c)):bZ (K7 G m (.ref l) H) Q:=.of (x:=xA.H7 c) ((pB e).trans ht) q
@[irreducible]
def oR(sc:Y J)(d:O):Call:=Cl sc d
theorem Pm: oR sc d=Cl sc d:=by unfold oR;rfl
theorem X7{d n np nv:O}{b:Y bD}(hk:(cx sc).kind n= .fn np nv b)(hl:hU args.length np=u)(h:bQ (cx sc) (oR sc d) b (args.map Z++kA (nv-np) aB) H λfl _ h1=>Q (gT fl) h1):Wf sc (d+1) n args H Q:=cF hk hl (by rw[<-Pm];exact h)
theorem Fo{f:Y O}{L:Hp}{as:Y V}(hf:(cx sc).fr n=u)(s:iW f L H)(e:sU (fN f H.length) as=args)(k:Wf sc d n as L λv L'=>∀h',Cf f H L' h'->Q (qT (fN f H.length) v) h'):oR sc d n args H Q:=by rw[Pm];show cW ((cx sc).fr n) _ _;rw[hf];exact⟨f,L,as,s,e,k⟩
end
theorem Az{o:bY}(h:GW (λ_=>aE) o=u):iZ g o=o:=sN (λ_ q=>mX q) h
theorem Uy{v:V}(h:sO (λ_=>aE) v=u):qT g v=v:=Ta (λ_ q=>mX q) v h
theorem DZ{a b:O}{p o:bY}(ha:H[a]?=Z p)(hb:H[b]?=Z o)(zK:a≠b)(hp:GW (λ_=>aE) p=u)(ho:GW (λ_=>aE) o=u):iW [a,b] [p,o] H:=by
 refine⟨rfl,Dv.mpr ⟨λq=>zK (iU.mp q),Dv.mpr ⟨nA,G0⟩⟩,λi j h=>?_⟩
 match i,h with
 | 0,h=>
  rw[<-aT h];exact⟨iN ha,ha.trans (aW Z (Az hp).symm)⟩
 | 1,h=>
  rw[<-aT h];exact⟨iN hb,hb.trans (aW Z (Az ho).symm)⟩
theorem Jx{Q:PE}(hf:(cx sc).fr n=aE)(k:Wf sc d n args H Q):oR sc d n args H Q:=by rw[Pm];show cW ((cx sc).fr n) _ _;rw[hf];exact k
noncomputable def IV(p:O)(aF:J):bY:=.inst 8 [(4,.ref p),(5,.int (4+aF)),(6,.int 2),(7,.aM [.int 0,.int 0]),(8,.int 2)]
section
variable{Q:PE}
theorem lr(q:Q (.int 0) H):Wf sc (d+2) 15 [.int (-1)] H Q:=cF rfl rfl (cF rfl rfl q)
theorem mh'{v1 v2 v3 v4 v5:V}(q:Q .none (H++[.inst 8 [(4,v1),(5,v2),(6,v3),(7,v4),(8,v5)]])):Wf sc (d+1) 24 [.ref H.length,v1,v2,v3,v4,v5] (H++[.inst 8 []]) Q:=
 cF rfl rfl (pU rfl (pU rfl (pU rfl (pU rfl (pU rfl q)))))
theorem kQ'{o1:aG V}(s:Seen Bi y H)(ok:Ch y.aP y.aH)(hz:y.aP.length<99999)
  (q:∀l j H',H'[l]?=Z (IV j y.aF)->H'[j]?=Z (.list ((BA y.aP y.aH).map dF.v))->(∀i,i<14->H'[i]?=H[i]?)->14<=l/\14<=j->Q (.ref l) H'):
  bQ (cx sc) (oR sc (d+3)) (QC.drop 2) [Z (.ref 17),o1,aB,aB,aB] H λfl _ h1=>Q (gT fl) h1:=by
 obtain⟨⟨K,hm⟩,Bp,Yv,⟨sl,hc⟩,R4,C7⟩:=s;refine BY hc rfl rfl (BY Bp rfl rfl (QO (xs:=[(-1:J),-1]) (f:=V.int) (λ_=>.int 0) (λk=>rfl) (by decide) (λx hx q hq=>?_) (Oe eA ?_)))
 ·rcases oE.mp hx with rfl|hx
  exact Jx rfl (lr hq);rw[iU.mp hx];exact Jx rfl (lr hq)
 ·have fD':=C7
  have hc:=lH (o':=bY.list [.int 0,.int 0]) hc;have R4:=lH (o':=bY.list [.int 0,.int 0]) R4;have C7:=lH (o':=bY.list [.int 0,.int 0]) C7;show bQ (cx sc) (oR sc (d+3)) (QC.drop 3) [Z (.ref 17),o1,Z (.aM [.int 0,.int 0]),aB,aB] (H++[.list [.int 0,.int 0]]) λfl _ h1=>Q (gT fl) h1;have keep:∀i,i<14->(H++[bY.list [.int 0,.int 0]])[i]?=H[i]?:=λi hi=>gO (bT hi (bT (by decide:14<19) (iN fD')));generalize H++[.list [.int 0,.int 0]]=H at *;refine BY hc rfl rfl (BY hc rfl rfl (BY hc rfl rfl (Fo (f:=[18,19]) (L:=hr y.aP y.aH []) (as:=[.ref 0,.ref 1]) rfl (DZ R4 C7 (by decide) (nW IG _) (nW (λ_=>rfl) _)) rfl (mf' ok hz λg H' b=>?_))));have hc:=(b.keep 17 (iN hc) (by decide)).trans hc;have hn:=b.new 0;have hl:=b.len;have Mk:=bT (by decide:14<19) (iN C7);refine BY hc rfl rfl (BY hc rfl rfl (BY hc rfl rfl (Jx rfl (mh' ⟨rfl,q _ H.length _ eA (lH ?_) (λi hi=>?_) ⟨?_,?_⟩⟩))))
  ·refine hn.trans ?_
   exact aW Z (Az (nW IG _))
  ·rw[gO (by rw[hl];exact eP (bT hi Mk) (bU ..)),b.keep i (bT hi Mk) λq=>(by decide:∀j∈[18,19],¬ j<14) i q hi]
   exact keep i hi
  rw[hl];exact aL (lO Mk) (bU ..);exact lO Mk
theorem kR'(w:X.wp P Bi (X.gR.eG 2 0 2 0))(hP:∀y,P y->Ch y.aP y.aH/\y.aP.length<99999)
  (q:∀y l j H',P y->H'[l]?=Z (IV j y.aF)->H'[j]?=Z (.list ((BA y.aP y.aH).map dF.v))->(∀i,i<14->H'[i]?=(dT (Bi.map aI.v) [])[i]?)->14<=l/\14<=j->Q (.ref l) H'):Wf sc (d+9) 50 [.ref 17] (X.gR.hp (Bi.map aI.v) []) Q:=by
 refine X7 rfl rfl (Jx rfl (T8 (x:=X.gR) (ps:=[]) (rs:=kA 2 (.int (-1))) (by decide) ?_));have w:X.wp P Bi (X.gR.eG 2 ([]:Y V).length (kA 2 (V.int (-1))).length 0):=w;generalize X.gR.eG 2 ([]:Y V).length (kA 2 (V.int (-1))).length 0=x at *;have s0:=UO (x:=x) (Bi:=Bi) (r:=[]);refine GO Bi.length (λn I H=>∃o y,I=[Z (.ref 17),o,aB,aB,aB]/\wY (Bi.map aI.v) y H/\X.wp P (Bi.drop n) y) ⟨aB,x,rfl,s0,w⟩ ?_ ?_
 ·intro I H j
  obtain⟨o,y,e1,s,w⟩:=j;rw[e1];rw[List.drop_length]at w;exact⟨TU s.UE.body (dH (cJ _)),kQ' s.UE (hP y w).1 (hP y w).2 λl j H' a b c e=>q y l j H' w a b (λi hi=>(c i hi).trans (s.mod i hi)) e⟩
 ·intro n I H hn j go fL
  obtain⟨o,y,e1,s,w⟩:=j;rw[e1];rw[List.drop_eq_getElem_cons hn]at w;have hi:=cS hn;generalize Bi[n]=i at *;have se:=s.UE;obtain⟨l,hc⟩:=se.obj;obtain⟨f,hf,sl⟩:=s.ex;refine⟨_,TT se.body (pT hi) rfl,Ud hc rfl (Fo (f:=f) (L:=y.hp (Bi.map aI.v) []) (as:=[.ref 17,i.v]) rfl sl ?_ (mn' w.1 λL' t hl H' b=>fL _ _ ⟨_,_,rfl,t.tI hf sl b hl,w.2 0⟩))⟩;show [V.ref (fN f _ 17),qT (fN f _) i.v]=[V.ref 17,i.v];rw[Bf (hf 17 rfl),Uy (CD i)]
end
section
variable{Q:PE}
theorem mi'(w:X.wp P Bi (X.gR.eG 2 0 2 0))(hP:∀y,P y->Ch y.aP y.aH/\y.aP.length<99999)
  (q:∀y l j H',P y->H'[l]?=Z (IV j y.aF)->H'[j]?=Z (.list ((BA y.aP y.aH).map dF.v))->(∀i,i<14->H'[i]?=(dT (Bi.map aI.v) [])[i]?)->14<=l/\14<=j->Q (.ref l) H'):Wf sc (d+10) 72 [.ref 0,.int 1] (dT (Bi.map aI.v) []) Q:=
 cF rfl rfl (lX' (lj' (r:=[.list [.ref 3,.ref 4,.ref 5,.ref 6],.list [.int 5]]) (lc' ⟨rfl,kR' w hP q⟩)))
end
noncomputable def hV:aG O->V
 | some n=>.int n
 | none=>.none
noncomputable def DG(p:O×aC):V:=.aM [.int p.1,.int (if p.2 then 1 else 0)]
def pQ(L:Y (O×aC)):bY:=.list (L.map DG)
def g3(sq:Y J)(a b:O)(code:Y aI)(r:Hp):Hp:=.list (sq.map .int)::jo 0 a b::pL code::r
theorem Xq{L:Y (O×aC)}{n:O}:∀{k:O},dR L (Z (n+k)) (kA k .drop) (Z n)
 | 0=>.nil
 | k+1=>by
  rw[Ve];exact dR.dI (a:=[.drop]) (h1:=Z (n+k)) .drop Xq
noncomputable def nx'(h:aG O)(aD:O):O:=match h with
 | some n=>(n-aD)+(aD-n)
 | none=>0
theorem xH(i n:J)(h:0<n):0<=i.fmod n/\i.fmod n<n:=⟨O6 i h,xe i h⟩
theorem yT.eY{i:aI}(h:(∃n,i= .const n)\/ ∃n,i= .get n/\0<=n/\n<3){s:Y aI}(hs:yT s):yT (s++[i]):=λj hj=>by
 rcases oQ.mp hj with q|q
 exact hs j q;rw[iU.mp q];exact h
theorem vC{c:E}{body:Y bD}{Q:PS}(bK:O->cA->Hp->Prop)(n:O)(h0:bK n I H)(step:∀n I H,bK n I H->∀go:cA->Hp->Prop,(∀m ρ' H',m<n->bK m ρ' H'->go ρ' H')->wE G cl c I H λv h1=>bZ (tW v) λt=>cW t (bQ G cl body I h1 (kJ go (zC go (kJ (fun ρ1 h1=>bQ G cl lT ρ1 h1 Q) Q)))) (bQ G cl lT I h1 Q)):bQ G cl (.vC c body::lT) I H Q:=by rw[Ey];show oB (λ(p:cA×Hp) go=>wE G cl c p.1 p.2 λv h1=>bZ (tW v) λt=>cW t (bQ G cl body p.1 h1 (kJ (λI h=>go (I,h)) (zC (λI h=>go (I,h)) (kJ (fun ρ1 h1=>bQ G cl lT ρ1 h1 Q) Q)))) (kJ (fun ρ1 h1=>bQ G cl lT ρ1 h1 Q) Q .next p.1 h1)) (I,H);exact⟨n,λn s=>bK n s.1 s.2,h0,λn s hs=>step n s.1 s.2 hs _ λm ρ' H' hm hi=>⟨m,hm,hi⟩⟩
theorem UT(h1: -1000000<i)(h2:i<1000000):jR i=u:=decide_eq_true (il' h1 h2)
theorem Ka{b:J}(h:(jR a&&jR b)=u)(q:Q (.int (a*b),H)):bZ (Ba .Mult (.int a) (.int b) H) Q:=by refine .of (x:=(.int (a*b),H)) ?_ q;show bE (eU (jR a&&jR b) (Z (a*b))) _=_;rw[pC h];rfl
section
variable{a b:O}{Q:PE}{r:Hp}
theorem FZ{i:aI}{Q:V×Hp->Prop}(hz:code.length<100000)(q:Q (.none,g3 sq a b (code++[i]) r)):bZ (DJ 2 (code.map aI.v) 0 [i.v] (g3 sq a b code r)) Q:=by refine oS (by rw[cJ];exact hz) ?_;rw[zT];exact q
theorem mz(uP:a<100000)(q:∀x,Q (.int x) (g3 sq (a+1) b code r)):Wf sc (d+1) 87 [.ref 1] (g3 sq a b code r) Q:=by
 have hm:(jR 53&&jR a)=u:=by rw[Db (bT uP (by decide))];rfl
 refine cF rfl rfl (fU (λh=>?_) λh=>?_)
 ·have h:(a:J)<((sq.map V.int).length:J):=fY h
  rw[kH]at h;have hk:=cS (eZ.mp h);exact uS (zS (eZ.mp h)) (pT hk) (Ka hm (q _))
 ·exact Ka hm (q _)
theorem IW{high:O}{j:J}(ei:i=high)(ej:j=aD)(x:J)(hz:code.length+aD<100000)(q:∀bL,yT bL->bL.length=aD-high->Q (.int (high+bL.length:O)) (g3 sq a b (code++bL) r)):Wf sc (d+1) 88 [.ref 2,.int i,.int j,.int x] (g3 sq a b code r) Q:=by
 rw[ei,ej];refine cF rfl rfl (vC (λn I H=>∃x bL,I=[Z (.ref 2),Z (.int (high+bL.length:O)),Z (.int aD),Z (.int x)]/\n=aD-(high+bL.length)/\H=g3 sq a b (code++bL) r/\yT bL/\bL.length<=aD-high) (aD-high) ?_ λn I H j go fL=>?_);exact⟨x,[],rfl,rfl,by rw[pH],λ_ h=>absurd h nA,nD _⟩;obtain⟨x,bL,e1,e2,e3,hF,hl⟩:=j;rw[e1,e3];refine fU (λh=>?_) λh=>?_
 ·have h:((high+bL.length:O):J)<aD:=fY h
  have h:=eZ.mp h;have dE:(code++bL).length<100000:=by rw[bA];exact bT (yO (cM (dL _ _) h) _) hz
  have aS:∀i:aI,((∃n,i= .const n)\/ ∃n,i= .get n/\0<=n/\n<3)->go [Z (.ref 2),Z (.int ((high+bL.length:O)+1)),Z (.int aD),Z (.int (x.fdiv 3+1))] (g3 sq a b (code++bL++[i]) r):=λi hi=>
   fL (aD-(high+bL.length)-1) _ _ (by rw[e2];exact CX (Lb h) CW) ⟨_,bL++[i],by rw[bA];rfl,by rw[bA];rfl,by rw[fB],hF.eY hi,by rw[bA];exact G2 (by rw[nB,<-gC];exact h)⟩
  refine fU (λh=>?_) λh=>?_;exact FZ (i:=.const ((x.fdiv 2).fmod 9-2)) dE (aS _ (.inl ⟨_,rfl⟩));exact FZ (i:=.get ((x.fdiv 2).fmod 3)) dE (aS _ (.inr ⟨_,rfl,xH _ 3 (by decide)⟩))
 ·have h: ¬ ((high+bL.length:O):J)<aD:=AQ h
  exact q bL hF (BM hl (Nat.sub_le_iff_le_add.mpr (nB _ _▸kU.mp λq=>h (eZ.mpr q))))
end
theorem el'(hF:yT bL)(hl:bL.length=aD-n)(h:n<=aD):dR L (Z n) bL (Z aD):=by have:=hF.bL (L:=L) (n:=n);rw[hl,JA h]at this;exact this
theorem ny'(hF:yT bL)(hl:bL.length=aD-min n aD):dR L (Z n) (kA (n-aD) .drop++bL) (Z aD):=by
 by_cases cQ:n<=aD
 ·rw[zq cQ,yu,I7]
  rw[FC cQ]at hl;exact el' hF hl cQ
 ·have jG:=Nat.le_of_not_le cQ
  rw[Vm jG,qB]at hl;rw[Dr hl,pH];have:=Xq (L:=L) (n:=aD) (k:=n-aD);rw[JA jG]at this;exact this
section
variable{a b:O}{Q:PE}{r:Hp}
theorem IY(L:Y (O×aC)){h:aG O}{aD:O}{v:V}(ev:v=hV h)(hm:aD<=1000)(hh:h.getD 0<=1000)(hz:code.length<80000)(q:∀bL,dR L h bL (h.map λ_=>aD)->bL.length=nx' h aD->Q .none (g3 sq a b (code++bL) r)):Wf sc (d+2) 89 [.ref 2,v,.int aD] (g3 sq a b code r) Q:=by
 rw[ev];cases h with
 | none=>
  have q:=q [] .nil rfl;rw[pH]at q;exact cF rfl rfl q
 | some n=>
  have hn:n<=1000:=hh;refine cF rfl rfl (DX (UT (mZ (by decide:(-1000000:J)<0-1000) (xm (eQ n) (fV.mpr hm))) (qV (xm (fV.mpr hn) (eQ aD)) (by decide:(1000:J)-0<1000000))) (GO (n-aD) (λk I H=>∃v,I=[Z (.ref 2),Z (.int n),Z (.int aD),v]/\H=g3 sq a b (code++kA k .drop) r) ?_ ?_ ?_));exact⟨aB,rfl,by rw[yu,pH]⟩
  ·intro I H j
   obtain⟨v,e1,e2⟩:=j;rw[e1,e2];refine⟨gu (by rw[I2];exact oD.mpr (xn (fV.mpr (dh rfl)))),IW (high:=min n aD) (aD:=aD) n6 rfl 4 (by rw[bA,BL];exact eP (qA (qA hz (aL (fW _ _) hn)) hm) (by decide)) λbL hF hl=>?_⟩;rw[fB];exact q _ (ny' hF hl) (by rw[bA,BL,hl];exact aW (_ + ·) n5)
  ·intro k I H hk j go fL
   obtain⟨v,e1,e2⟩:=j;rw[e1,e2];exact⟨_,gr (by rw[I2,<-yJ (im' hk)];exact eZ.mpr hk) rfl,FZ (i:=.drop) (by rw[bA,BL];exact eP (qA hz (aL (lO hk) (aL (fW _ _) hn))) (by decide)) (fL _ _ ⟨_,rfl,by rw[List.replicate_succ',fB]⟩)⟩
end
noncomputable def Ue:Y (Y aI):=[[],[.dX 106,.drop],[.const 3,.set 0],[.block (-64),.const 1,.iff (-64),.dG,.aS,.aS]]
theorem Uf{t:Y aI}(ht:t∈Ue):iS t/\t.length<=6:=by
 simp only[Ue,oE,nA,D0]at ht;rcases ht with rfl|rfl|rfl|rfl
 exact⟨.nil,by decide⟩;exact⟨iS.Ga (by decide),by decide⟩;exact⟨iS.Ga (by decide),by decide⟩;exact⟨iS.uH (i:=.block (-64)) (a:=[.const 1,.iff (-64),.dG,.aS]) (.inl rfl) (.dI (a:=[.const 1]) (iS.Ga (by decide)) (iS.dG (a:=[]) (b:=[]) .nil .nil)),by decide⟩
def gU(r r':Hp):Prop:=∀(i:O) (o:bY),r[i]?=Z o->r'[i]?=Z o
theorem gU.refl(r:Hp):gU r r:=λ_ _ h=>h
theorem gU.dI{r:Hp}(h:gU r r'){o:bY}: gU r (r'++[o]):=λi p hp=>lH (h i p hp)
theorem gU.trans{r s t:Hp}(h:gU r s)(k:gU s t):gU r t:=λi p hp=>k i p (h i p hp)
section
variable{a b:O}{r:Hp}
theorem YB{t:Y aI}{m:O}(hm:H[m]?=Z (.list ys))(hy:ys=t.map aI.v)(h3:hU 2 m=aE)(hz:code.length+t.length<100000)(q:Q (.none,H.set 2 (pL (code++t)))):bZ (DJ 2 (code.map aI.v) 2 [.ref m] H) Q:=by
 refine .of (x:=(.none,H.set 2 (pL (code++t)))) ?_ q;show bE (bE H[m]? qN) _=_;rw[hm,hy];show eU (decide (2≠m)&&decide ((code.map aI.v).length+(t.map aI.v).length<=aF)) (Z (V.none,H.set 2 (.list (code.map aI.v++t.map aI.v))))=_;have h2:2≠m:=λq=>by subst q;exact mX (show u=aE from h3)
 rw[show decide (2≠m)=u from decide_eq_true h2,decide_eq_true (by rw[cJ,cJ];exact aL (lO hz) (by decide)),<-kM];rfl
theorem TI{n:J}(hn:(n != 0)=u)(q:Q (.int (i.fmod n),H)):bZ (Ba .Mod (.int i) (.int n) H) Q:=by refine .of (x:=(.int (i.fmod n),H)) ?_ q;show bE (eU (n != 0) (Z (i.fmod n))) _=_;rw[pC hn];rfl
end
noncomputable def tA:bY:=.list []
noncomputable def tB:bY:=.list [.aM [.int 106],.aM [.int 26]]
noncomputable def tC:bY:=.list [.aM [.int 65,.int 3],.aM [.int 33,.int 0]]
noncomputable def tD:bY:=.list [.aM [.int 2,.int (-64)],.aM [.int 65,.int 1],.aM [.int 4,.int (-64)],.aM [.int 5],.aM [.int 11],.aM [.int 11]]
def tl(H:Hp):Y O:=[H.length,(H++[tA]).length,(H++[tA]++[tB]).length,(H++[tA]++[tB]++[tC]).length]
def tt(H:Hp)(o:bY):Hp:=H++[tA]++[tB]++[tC]++[tD]++[o]
theorem pm'(o:bY){j:O}(h:j<4):∃t,t∈Ue/\(tt H o)[(tl H)[j]?.getD 0]?=Z (pL t)/\H.length<=(tl H)[j]?.getD 0:=by refine db h ⟨_,.head _,lH (lH (lH (lH eA))),cE _⟩ ⟨_,.tail _ (.head _),lH (lH (lH eA)),by show _<=(H++[tA]).length;rw[bA];exact bU ..⟩ ⟨_,.tail _ (.tail _ (.head _)),lH (lH eA),by show _<=(H++[tA]++[tB]).length;rw[bA,bA];exact bU _ 2⟩ ⟨_,.tail _ (.tail _ (.tail _ (.head _))),lH eA,by show _<=(H++[tA]++[tB]++[tC]).length;rw[bA,bA,bA];exact bU _ 3⟩
theorem cq'{m:O}(h:3<=m):hU 2 m=aE:=rS.mpr λq=>by have:=AP q;subst this;exact zp 2 h
theorem gp'{ms:Y O}{Q:V->Prop}(e:H[l]?=Z (.list (ms.map V.ref)))(hk:kQ i ms.length=Z k)(q:Q (.ref (ms[k]?.getD 0)))(hl:k<ms.length):bZ (Au G (.ref l) i H) Q:=
 rJ e (by rw[cJ];exact hk) (by rw[fJ,cS hl];rfl) q
section
variable{a b:O}{Q:PE}{r:Hp}{o1 o2 o3 o5 o6:aG V}{x:J}
theorem mn(hz:code.length<90000)(q:∀t r',iS t->t.length<=6->gU r r'->Q .none (g3 sq a b (code++t) r')):
  bQ (cx sc) cl (EH.drop 7) [Z (.ref 2),o1,o2,o3,Z (.int x),o5,o6,o7,o8,o9] (g3 sq a b code r) λfl _ h1=>Q (gT fl) h1:=by
 obtain⟨f0,f4⟩:=xH x 4 (by decide);have C9:kQ (x.fmod 4) 4=Z (x.fmod 4).toNat:=by
  have:=tP (k:=(x.fmod 4).toNat) (n:=4) ((yK f0).mpr f4);rw[pG f0]at this;exact this
 have hj:(x.fmod 4).toNat<4:=(yK f0).mpr f4;obtain⟨t,ht,hm,jG⟩:=pm' (H:=g3 sq a b code r) (.list ((tl (g3 sq a b code r)).map V.ref)) hj;refine gp' (ms:=tl (g3 sq a b code r)) eA C9 (YB (H:=tt (g3 sq a b code r) (.list ((tl (g3 sq a b code r)).map V.ref))) (t:=t) hm rfl ?_ (eP (qA hz (Uf ht).2) (by decide)) ?_) hj;exact cq' (aL (dL 3 r.length) jG);exact q t _ (Uf ht).1 (Uf ht).2 (gU.dI (gU.dI (gU.dI (gU.dI (gU.dI (gU.refl r))))))
end
noncomputable def IL(L:Y (O×aC))(k:O):aC:=match L[L.length-1-k]? with
 | some p=> !p.2
 | none=>aE
def qP(L:Y (O×aC)):Y O:=(fX L.length).filter (IL L)
theorem IM(h:k∈qP L):k<L.length/\∃aD,L[L.length-1-k]?=Z (aD,aE):=by
 obtain⟨h1,h2⟩:=PC.mp h;have hk:=Gz.mp h1;obtain⟨aD,b,hg⟩:=qX.get hk;refine⟨hk,aD,?_⟩;unfold IL at h2;rw[hg]at h2 ⊢;cases b with
 | true=>exact mX (show aE=u from h2)
 | false=>rfl
theorem jG'(ok:qX L):L[L.length-1-(L.length-1)]?=Z (2,aE)/\L.length-1∈qP L:=by
 have h0:L[L.length-1-(L.length-1)]?=Z (2,aE):=by
  rw[qB];exact ok.zero
 refine⟨h0,PC.mpr ⟨Gz.mpr (CX ok.pos CW),?_⟩⟩;unfold IL;rw[h0];rfl
noncomputable def Ek(L:Y (O×aC))(aD:O)(k:O):aC:=match L[L.length-1-k]? with
 | some p=>(p.1:J)==aD
 | none=>aE
def EE(L:Y (O×aC))(aD:O):Y O:=(qP L).filter (Ek L aD)
theorem L0(h:k∈EE L aD):k<L.length/\L[L.length-1-k]?=Z (aD,aE):=by obtain⟨h1,h2⟩:=PC.mp h;obtain⟨hk,m,hg⟩:=IM h1;refine⟨hk,?_⟩;unfold Ek at h2;rw[hg]at h2 ⊢;rw[show m=aD from pY (eq_of_beq h2)]
theorem x8(h:k∈qP L)(hg:L[L.length-1-k]?=Z (aD,aE)):0<(EE L aD).length:=by refine yh (a:=k) (PC.mpr ⟨h,?_⟩);unfold Ek;rw[hg];exact Ce _
theorem YT{α β:Type}{p:α->aC}{f:α->β}:∀(xs:Y α),xs.filterMap (λx=>if p x then Z (f x) else aB)=(xs.filter p).map f
 | []=>rfl
 | x::xs=>by
  rw[LV,List.filter_cons,YT xs];cases p x<;>rfl
noncomputable def nN(k:O):V:=.int k
theorem Tw{x:J}{ks:Y O}(h0:0<ks.length):yY (λk j=>k∈ks) (λk j=>kQ (x.fmod ((ks.map nN).length:J)) (ks.map nN).length=Z j) (λk j=>(ks.map nN)[j]?=Z (.int (k:O))):=by rw[cJ];obtain⟨h1,h2⟩:=xH x ks.length (eZ.mpr h0);have cQ:(x.fmod ks.length).toNat<ks.length:=(yK h1).mpr h2;have:=tP cQ;rw[pG h1]at this;exact⟨_,_,AO cQ,this,by rw[fJ,cS cQ];rfl⟩
section
variable{a:O}{r:Hp}
theorem Si{Q:V->Prop}(hL:H[l]?=Z (pQ L))(hk:k<L.length)(hg:L[L.length-1-k]?=Z (aD,b))(q:Q (.aM [.int aD,.int (if b then 1 else 0)])):bZ (Au G (.ref l) (((L.map DG).length:J)-1-k) H) Q:=by refine rJ (k:=L.length-1-k) hL ?_ (pT hg) q;rw[cJ];have:=tP (k:=L.length-1-k) (n:=L.length) (n1 hk);rw[n3 hk]at this;exact this
theorem iL': zY (.gG 0 n) k H=Z ((fX n).map nN)[k]?:=by show Z (if (0:J)+k<n then Z (V.int (0+k)) else aB)=_;rw[fJ,I2];by_cases h:k<n;rw[rT h,aZ (eZ.mpr h)];rfl;rw[lF (by rw[pI];exact sY h),aR (λq=>h (eZ.mp q))];rfl
theorem iK'(e:H[l]?=Z (.list xs)):zY (.ref l) k H=Z xs[k]?:=by show bE (bE H[l]? qN) _=_;rw[e];rfl
theorem Jb{b:O}{o:bY}{i:aI}(hz:code.length<100000)(q:Q (.none,g3 sq a b (code++[i]) (r++[o]))):bZ (DJ 2 (code.map aI.v) 0 [i.v] (g3 sq a b code r++[o])) Q:=by refine oS (by rw[cJ];exact hz) ?_;rw[zT];exact q
theorem Qi{b:O}{t:Y aI}(hy:ys=t.map aI.v)(hz:code.length+t.length<100000)(q:Q (.none,g3 sq a b (code++t) (r++[.list ys]))):bZ (DJ 2 (code.map aI.v) 2 [.ref (g3 sq a b code r).length] (g3 sq a b code r++[.list ys])) Q:=
 YB eA hy rfl hz q
end
theorem XW{a b:O}{r:Hp}{Q:PE}{xs:Y O}{p:O->aC}(h1:∀k,zY it k (g3 sq a b code r)=Z (xs.map nN)[k]?)(hz:xs.length<aF)
  (ht:∀x∈xs,∀q,q (if p x then Z (nN x) else aB) (g3 sq a b code r)->gK (nN x) (g3 sq a b code r) q) (k:Q (.ref (r.length+3)) (g3 sq a b code (r++[.list ((xs.filter p).map nN)]))):oB (Aa gK it Q) (0,[],g3 sq a b code r):=by
 refine XU (g:=λx=>if p x then Z (nN x) else aB) h1 hz ht ?_;rw[YT];exact k
theorem W9(h:0<n):((n:J) != 0)=u:=Dy.mpr λq=>tY 0 ((pY q:n=0)▸h)
theorem MX{fs:Y aI}(hF:yT fs)(hl:fs.length=aD-h):dR L (Z h) fs (Z (h+fs.length))/\aD<=h+fs.length:=⟨hF.bL,dh hl⟩
section
variable{a b qG o:O}{Q:PE}{r:Hp}{Ez x:J}
theorem mj(hz:code.length<80000)(ok:qX L)(hh:h<=900)(xJ:qG∈qP L)(hg:L[L.length-1-qG]?=Z (aD,aE))(h1:(x.fdiv 3).fmod 3=1->aD=2){v2 v5:V}{dv mv:J}(ed:dv=qG)(em:mv=aD)
  (q:∀bL r',dR L (Z h) bL aB->bL.length<=14->gU r r'->Q .none (g3 sq a b (code++bL) r')):
  bQ (cx sc) (Cl sc (d+1)) (EH.drop 5) [Z (.ref 2),Z (.int h),Z v2,Z (.int 13),Z (.int x),Z v5,Z (.int dv),Z (.int mv),aB,aB] (g3 sq a b code r) λfl _ h1=>Q (gT fl) h1:=by
 rw[ed,em];have uR:aD<=2:=ok.aD _ (oF hg);have cQ:=(IM xJ).1;refine IW (high:=h) (aD:=aD) rfl rfl (x.fdiv 7) (eP (qA hz uR) (by decide)) λfs hF hl=>?_;obtain⟨sF,jG⟩:=MX (L:=L) hF hl;have jT:fs.length<=2:=hl▸aL (fW ..) uR;obtain⟨j,i,C9,hv,hs⟩:∃j i,kQ ((x.fdiv 3).fmod 3) 3=Z j/\[(aI.br qG).v,aI.ret.v,aI.qS.v][j]?=Z i.v/\dR L (Z (h+fs.length)) [i] aB:=by
  obtain⟨f0,f3⟩:=xH (x.fdiv 3) 3 (by decide);have c3:(x.fdiv 3).fmod 3=0\/(x.fdiv 3).fmod 3=1\/(x.fdiv 3).fmod 3=2:=dm f0 f3;rcases c3 with q|q|q
  exact⟨0,.br qG,by rw[q];rfl,rfl,.br cQ hg jG⟩;exact⟨1,.ret,by rw[q];rfl,rfl,.ret (h1 q▸jG)⟩;exact⟨2,.qS,by rw[q];rfl,rfl,.qS⟩
 have dE:(code++fs).length<80010:=by rw[bA];exact eP (qA hz jT) (by decide)
 refine rJ (k:=j) (v:=i.v) eA C9 hv (Jb (i:=i) (bT dE (by decide)) (mn (by rw[bA];exact bT (sX dE 1) (by decide)) λt r' hB ht he=>?_));rw[fB,fB];refine q _ r' (sF.dI (hs.dI (.zE hB))) ?_ ((gU.refl r).dI.trans he);rw[bA,bA];exact eN jT (aL (eR ht 1) (by decide:1+6<=12))
end
theorem YH(x:J):dR L (Z h) [.get ((x.fdiv 5).fmod 3)] (Z (h+1)):=.get (xH _ 3 (by decide)).1 (yI (xH _ 3 (by decide)).2 (by decide))
section
variable{a b qG o:O}{Q:PE}{r:Hp}{Ez x:J}
theorem lF'(hz:code.length<80000)(hL:r[k]?=Z (pQ L))(ok:qX L)(ho:r[o]?=Z (.list ((qP L).map nN)))(hh:h<=900)(xJ:qG∈qP L)(hg:L[L.length-1-qG]?=Z (aD,aE))
  (q:∀bL r',dR L (Z h) bL aB->bL.length<=14->gU r r'->Q .none (g3 sq a b (code++bL) r')):
  bQ (cx sc) (Cl sc (d+1)) (EH.drop 5) [Z (.ref 2),Z (.int h),Z (.ref (k+3)),Z (.int 14),Z (.int x),Z (.ref (o+3)),Z (.int qG),Z (.int aD),aB,aB] (g3 sq a b code r) λfl _ h1=>Q (gT fl) h1:=by
 have uR:aD<=2:=ok.aD _ (oF hg);have cQ:=(IM xJ).1;refine IW (high:=h) (aD:=aD) rfl rfl (x.fdiv 7) (eP (qA hz uR) (by decide)) λfs hF hl=>?_;obtain⟨sF,jG⟩:=MX (L:=L) hF hl;have jT:fs.length<=2:=hl▸aL (fW ..) uR;have dE:(code++fs).length<80010:=by rw[bA];exact eP (qA hz jT) (by decide)
 have F6:(qP L).length<=5:=aL (List.length_filter_le ..) (by rw[pI];exact ok.le);have vR:(g3 sq a b (code++fs) r)[k+3]?=Z (pQ L):=hL;have Ho:(g3 sq a b (code++fs) r)[o+3]?=Z (.list ((qP L).map nN)):=ho;refine XW (xs:=qP L) (p:=Ek L aD) (λ_=>iK' Ho) (cM F6 (by decide)) (λj hj q hq=>?_) ?_
 ·obtain⟨jK,m,ET⟩:=IM hj
  refine pR vR (Si vR jK ET (fU (λh=>?_) λh=>?_))
  ·rw[aZ (show Ek L aD j=u by unfold Ek;rw[ET];exact h)]at hq
   exact hq
  ·rw[aR (rS.mp (show Ek L aD j=aE by unfold Ek;rw[ET];exact h))]at hq
   exact hq
 have hA:(g3 sq a b (code++fs) (r++[.list ((EE L aD).map nN)]))[r.length+3]?=Z (.list ((EE L aD).map nN)):=eA (H:=r);have RG:=x8 xJ hg;have hn:((((EE L aD).map nN).length:J) != 0)=u:=W9 (by rw[cJ];exact RG);obtain⟨j1,n1,ZI,mQ,GB⟩:=Tw (x:=x.fdiv 3) RG;obtain⟨j2,n2,J7,lQ,GC⟩:=Tw (x:=x.fdiv 11) RG;have hE:=(gU.refl r).dI (o:=.list ((EE L aD).map nN));show bQ (cx sc) (Cl sc (d+1)) _ [Z (.ref 2),Z (.int h),Z (.ref (k+3)),Z (.int 14),Z (.int x),Z (.ref (o+3)),Z (.int qG),Z (.int aD),Z (.ref (r.length+3)),aB] (g3 sq a b (code++fs) (r++[.list ((EE L aD).map nN)])) _;generalize r++[.list ((EE L aD).map nN)]=r2 at *;generalize r.length=n at *;refine pR hA (TI hn (rJ hA mQ GB (pR hA (TI hn (rJ hA lQ GC (Qi (t:=[.get ((x.fdiv 5).fmod 3),.hO [j1,j2,qG]]) rfl (bT (sX dE 2) (by decide)) (mn ?_ λt r' hB ht he=>?_)))))));rw[bA];exact bT (sX dE 2) (by decide);rw[fB,fB];refine q _ r' (sF.dI (((YH x).dI (.hO rfl ?_):dR L _ ([_]++[_]) aB).dI (.zE hB))) ?_ (hE.trans ((gU.refl r2).dI.trans he))
 ·intro i hi
  rcases oE.mp hi with rfl|hi
  ·exact⟨(L0 ZI).1,aD,(L0 ZI).2,jG⟩
  rcases oE.mp hi with rfl|hi
  ·exact⟨(L0 J7).1,aD,(L0 J7).2,jG⟩
  rw[iU.mp hi];exact⟨cQ,aD,hg,jG⟩
 rw[bA,bA];exact eN jT (aL (eR ht 2) (by decide:2+6<=12))
end
section
variable{a b qG o:O}{Q:PE}{r:Hp}{Ez x:J}
theorem lE'(hz:code.length<80000)(ok:qX L)(hh:h<=900)(xJ:qG∈qP L)(hg:L[L.length-1-qG]?=Z (aD,aE)){v2 v5:V}
  (q:∀n bL r',dR L (Z h) bL (Z n)->bL.length+n<=h+14->gU r r'->Q (.int (n:O)) (g3 sq a b (code++bL) r')):
  bQ (cx sc) (Cl sc (d+1)) (EH.drop 3) [Z (.ref 2),Z (.int h),Z v2,Z (.int 12),Z (.int x),Z v5,Z (.int qG),Z (.int aD),aB,aB] (g3 sq a b code r) λfl _ h1=>Q (gT fl) h1:=by
 have uR:aD<=2:=ok.aD _ (oF hg);have cQ:=(IM xJ).1;refine IW (high:=h) (aD:=aD) rfl rfl (x.fdiv 7) (eP (qA hz uR) (by decide)) λfs hF hl=>?_;obtain⟨sF,jG⟩:=MX (L:=L) hF hl;have jT:fs.length<=2:=hl▸aL (fW ..) uR;have dE:(code++fs).length<80010:=by rw[bA];exact eP (qA hz jT) (by decide)
 refine Qi (t:=[.get ((x.fdiv 5).fmod 3),.gZ qG]) rfl (bT (sX dE 2) (by decide)) ?_;rw[fB];refine q (h+fs.length) _ _ (sF.dI ((YH x).dI (.gZ cQ hg jG):dR L _ ([_]++[_]) _)) ?_ (gU.refl r).dI;rw[bA];exact (show fs.length+2+(h+fs.length)<=h+14 from aL (eN (dP jT 2) (eR jT h)) (by rw[nB];exact eR (by decide:2+(2+2)<=14) h))
theorem lD'(hz:code.length<80000)(hL:r[k]?=Z (pQ L))(ok:qX L)(hh:h<=900)(hw:Ez=12\/Ez=13\/Ez=14)
  (q:∀h' bL r',dR L (Z h) bL h'->bL.length+h'.getD 0<=h+14->gU r r'->Q (hV h') (g3 sq a b (code++bL) r')):
  Wf sc (d+2) 90 [.ref 2,.int h,.ref (k+3),.int Ez,.int x] (g3 sq a b code r) Q:=by
 have vR:(g3 sq a b code r)[k+3]?=Z (pQ L):=hL;have dE:((L.map DG).length:J)<1000000:=by rw[cJ];exact qV (fV.mpr ok.le) (by decide)
 refine cF rfl rfl (pR vR (DX (UT (mZ (by decide:(-1000000:J)<0) (eQ _)) dE) (XW (xs:=fX L.length) (p:=IL L) (λ_=>by rw[cJ];exact iL') (by rw[pI];exact cM ok.le (by decide)) (λj hj q hq=>?_) ?_)))
 ·have jK:=Gz.mp hj
  obtain⟨m,b,ET⟩:=qX.get jK;refine pR vR (Si vR jK ET ?_);have e:IL L j= !b:=by unfold IL;rw[ET]
  rw[e]at hq;cases b with
  | true=>exact hq
  | false=>exact hq
 show bQ (cx sc) (Cl sc (d+1)) (EH.drop 1) [Z (.ref 2),Z (.int h),Z (.ref (k+3)),Z (.int Ez),Z (.int x),Z (.ref (r.length+3)),aB,aB,aB,aB] (g3 sq a b code (r++[.list ((qP L).map nN)])) λfl _ h1=>Q (gT fl) h1;have hE:=(gU.refl r).dI (o:=.list ((qP L).map nN));have ho:(r++[.list ((qP L).map nN)])[r.length]?=Z (.list ((qP L).map nN)):=eA;have hL:=hE _ _ hL;have q:∀h' bL r',dR L (Z h) bL h'->bL.length+h'.getD 0<=h+14->gU (r++[.list ((qP L).map nN)]) r'->Q (hV h') (g3 sq a b (code++bL) r'):=λh' bL r' hs hl he=>q h' bL r' hs hl (hE.trans he);clear vR hE;generalize r++[.list ((qP L).map nN)]=r1 at *;generalize r.length=o at *;have vR:(g3 sq a b code r1)[k+3]?=Z (pQ L):=hL;have Ho:(g3 sq a b code r1)[o+3]?=Z (.list ((qP L).map nN)):=ho;obtain⟨KL,lY⟩:=jG' ok;have gX:0<(qP L).length:=yh lY;obtain⟨qG,n1,xJ,mQ,GB⟩:=Tw (x:=x) gX;obtain⟨cQ,aD,hg⟩:=IM xJ;refine pR Ho (TI (W9 (by rw[cJ];exact gX)) (rJ Ho mQ GB (pR vR (Si vR cQ hg ?_))));show bQ (cx sc) (Cl sc (d+1)) (EH.drop 3) [Z (.ref 2),Z (.int h),Z (.ref (k+3)),Z (.int Ez),Z (.int x),Z (.ref (o+3)),Z (.int qG),Z (.int aD),aB,aB] (g3 sq a b code r1) λfl _ h1=>Q (gT fl) h1;rcases hw with rfl|rfl|rfl
 ·exact lE' hz ok hh xJ hg λn bL r'=>q (Z n) bL r'
 ·refine fU (λhc=>?_) λhc=>?_
  ·have e1:((L.map DG).length:J)-1=(L.length-1:O):=by
    have:=ok.pos;rw[cJ];exact (yJ this).symm
   have step:∀K:PS,K .next [Z (.ref 2),Z (.int h),Z (.ref (k+3)),Z (.int 13),Z (.int x),Z (.ref (o+3)),Z (.int (((L.map DG).length:J)-1)),Z (.int (2:O)),aB,aB] (g3 sq a b code r1)->bQ (cx sc) (Cl sc (d+1)) (LA EH[4]?) [Z (.ref 2),Z (.int h),Z (.ref (k+3)),Z (.int 13),Z (.int x),Z (.ref (o+3)),Z (.int qG),Z (.int aD),aB,aB] (g3 sq a b code r1) K:=λK q=>
    pR vR (rJ (k:=0) vR (tP (k:=0) (by rw[cJ];exact ok.pos)) (pT ok.zero) q)
   exact step _ (mj (aD:=2) hz ok hh lY KL (λ_=>rfl) e1 rfl λbL r' hs hl=>q aB bL r' hs (aL hl (dL ..)))
  ·exact mj hz ok hh xJ hg (λq=>absurd q (jB.mp hc)) rfl rfl λbL r' hs hl=>q aB bL r' hs (aL hl (dL ..))
 ·exact lF' hz hL ok ho hh xJ hg λbL r' hs hl=>q aB bL r' hs (aL hl (dL ..))
end
noncomputable def iM:O->O×O
 | 0=>(0,0)|1=>(0,1)|2=>(1,1)|3=>(2,1)|4=>(1,2)|_=>(2,2)
noncomputable def De:O->J
 | 0=> -64|1=> -1|n=>n
theorem qa{m:O}(h:m<6):m=0\/m=1\/m=2\/m=3\/m=4\/m=5:=(by decide:∀m,m<6->m=0\/m=1\/m=2\/m=3\/m=4\/m=5) m h
theorem sf{m:O}(h:m<6):A3 (hZ (De m)=Z ((iM m).1,(iM m).2)) ((iM m).1<=2) ((iM m).2<=2):=by rcases qa h with rfl|rfl|rfl|rfl|rfl|rfl<;>exact⟨rfl,by decide,by decide⟩
theorem K9{m:O}(h:m<6):(fR [(0,.int (-64)),(1,.int (-1))] (m:J)).getD (.int (m:J))=V.int (De m)/\qM[m]?=Z (Ax (iM m).1 (iM m).2):=by rcases qa h with rfl|rfl|rfl|rfl|rfl|rfl<;>exact⟨rfl,rfl⟩
noncomputable def rO(b:aC)(more:O)(t:J):aI:=if b then .loop t else if more=0 then .block t else .iff t
noncomputable def fD(b:Y bD)(i:O):bD:=b[i]?.getD .A1
section
variable{ep:aG O}
theorem Ik{Q:xA->Prop}(e:H[l]?=Z (.dict es ep))(q:Q .Jl):bZ (K7 G 3 (.ref l) H) Q:=.of (x:=xA.Jl) (pB e) q
theorem HY{dv v:V}(hv:(fR es i).getD dv=v)(q:Q (v,H)):bZ (QV es 3 [.int i,dv] H) Q:=.of (x:=(v,H)) (by rw[<-hv];rfl) q
end
section
variable{a b:O}{Q:PE}{r:Hp}{x:J}{K:PS}{bl:aC}
theorem Kv(q:Q (.ref H.length) (H++[.list qM])):Wf sc (d+1) 86 [] H Q:=cF rfl rfl q
theorem kT'{l:V}
  (q:∀m more:O,m<6->more<=1->(bl=u->(iM m).1=(iM m).2/\more=0)->bQ (cx sc) (Cl sc (d+1)) (qE.drop 3) [Z (.ref 1),Z (.ref 2),Z (.int h),Z l,Z (.bool bl),Z (.int x),Z (.int (m:O)),Z (.int (more:O)),aB,aB,Z (.int ((iM m).1:O)),Z (.int ((iM m).2:O))] (H++[.list qM]++[.list qM]) K):
  bQ (cx sc) (Cl sc (d+1)) qE [Z (.ref 1),Z (.ref 2),Z (.int h),Z l,Z (.bool bl),Z (.int x),aB,aB,aB,aB,aB,aB] H K:=by
 have mid:∀m:O,m<6->∀K:PS,K .next [Z (.ref 1),Z (.ref 2),Z (.int h),Z l,Z (.bool bl),Z (.int x),Z (.int (m:O)),aB,aB,aB,Z (.int ((iM m).1:O)),Z (.int ((iM m).2:O))] (H++[.list qM]++[.list qM])->
   wS (cx sc) (Cl sc (d+1)) (fD qE 1) [Z (.ref 1),Z (.ref 2),Z (.int h),Z l,Z (.bool bl),Z (.int x),Z (.int (m:O)),aB,aB,aB,aB,aB] H K:=λm hm K q=>by
  have q:K .next [Z (.ref 1),Z (.ref 2),Z (.int h),Z l,Z (.bool bl),Z (.int x),Z (.int (m:O)),aB,aB,aB,Z (.int ((kA (iM m).1 (V.int (-1))).length:O)),Z (.int ((kA (iM m).2 (V.int (-1))).length:O))] (H++[.list qM]++[.list qM]):=by
   rw[BL,BL];exact q
  exact Kv (rJ eA (tP (k:=m) (n:=6) hm) (K9 hm).2 (Kv (rJ eA (tP (k:=m) (n:=6) hm) (K9 hm).2 q)))
 cases bl with
 | true=>
  obtain⟨j,m,C9,hv,hm,xL⟩:∃j m:O,kQ (x.fmod 3) 3=Z j/\[V.int 0,.int 2,.int 5][j]?=Z (.int (m:O))/\m<6/\(iM m).1=(iM m).2:=by
   obtain⟨f0,f3⟩:=xH x 3 (by decide);have c3:x.fmod 3=0\/x.fmod 3=1\/x.fmod 3=2:=dm f0 f3;rcases c3 with q|q|q
   exact⟨0,0,by rw[q];rfl,rfl,by decide,rfl⟩;exact⟨1,2,by rw[q];rfl,rfl,by decide,rfl⟩;exact⟨2,5,by rw[q];rfl,rfl,by decide,rfl⟩
  exact iQ (λ_ q=>uS C9 hv q) (iQ (λK q=>mid m hm K q) (iQ (λ_ q=>q) (q m 0 hm (nD _) λ_=>⟨xL,rfl⟩)))
 | false=>
  obtain⟨f0,f6⟩:=xH x 6 (by decide);have hm:(x.fmod 6).toNat<6:=(yK f0).mpr f6;have e:=pG f0;refine iQ (ρ':=[Z (.ref 1),Z (.ref 2),Z (.int h),Z l,Z (.bool aE),Z (.int x),Z (.int (x.fmod 6)),aB,aB,aB,aB,aB]) (λ_ q=>q) ?_;rw[<-e];generalize (x.fmod 6).toNat=m at *;refine iQ (λK q=>mid m hm K q) ?_;by_cases hc:(x.fdiv 6).fmod 2=1;exact iQ (ρ':=[Z (.ref 1),Z (.ref 2),Z (.int h),Z l,Z (.bool aE),Z (.int x),Z (.int m),Z (.int (1:O)),aB,aB,Z (.int ((iM m).1:O)),Z (.int ((iM m).2:O))]) (λ_ q=>oY (kB.mpr hc) q) (q m 1 hm (cE _) (λq=>mX q));exact iQ (ρ':=[Z (.ref 1),Z (.ref 2),Z (.int h),Z l,Z (.bool aE),Z (.int x),Z (.int m),Z (.int (0:O)),aB,aB,Z (.int ((iM m).1:O)),Z (.int ((iM m).2:O))]) (λ_ q=>mR (jB.mpr hc) q) (q m 0 hm (nD _) (λq=>mX q))
end
section
variable{a b:O}{Q:PE}{r:Hp}{x:J}{K:PS}{bl:aC}
theorem Pz{LL:Y (O×aC)}{Q:V×Hp->Prop}(hL:r[k]?=Z (pQ L))(hy:L.map DG++ys=LL.map DG)(hz:LL.length<=1000)(q:Q (.ref ((r++[bY.list ys]).length+3),g3 sq a b code (r++[.list ys]++[pQ LL]))):bZ (Ba .Add (.ref (k+3)) (.ref (g3 sq a b code r).length) (g3 sq a b code r++[.list ys])) Q:=by
 refine HK (xs:=L.map DG) (ys:=ys) (lH (show (g3 sq a b code r)[k+3]?=Z (pQ L) from hL)) eA ?_ ?_
 ·have:=aW pZ hy
  rw[bA]at this;rw[this,cJ];exact decide_eq_true (aL hz (by decide))
 ·rw[hy];exact q
def xS(bl:aC)(m:O):O×aC:=if bl then ((iM m).1,u) else ((iM m).2,aE)
theorem kV'{m more:O}(hz:code.length<80000)(hL:r[k]?=Z (pQ L))(hm:m<6)(F3:more<=1)(hb:bl=u->more=0)(hh:h<=900)(dE:L.length<=5)
  (q:∀fs r1 xP,yT fs->fs.length=(iM m).1+more-h->gU r r1->r1[xP]?=Z (pQ (L++[xS bl m]))->bQ (cx sc) (Cl sc (d+1)) (qE.drop 6) [Z (.ref 1),Z (.ref 2),Z (.int (h+fs.length:O)),Z (.ref (k+3)),Z (.bool bl),Z (.int x),Z (.int m),Z (.int more),Z (.ref (xP+3)),aB,Z (.int ((iM m).1:O)),Z (.int ((iM m).2:O))] (g3 sq a b (code++(fs++[rO bl more (De m)])) r1) K):
  bQ (cx sc) (Cl sc (d+1)) (qE.drop 3) [Z (.ref 1),Z (.ref 2),Z (.int h),Z (.ref (k+3)),Z (.bool bl),Z (.int x),Z (.int m),Z (.int more),aB,aB,Z (.int ((iM m).1:O)),Z (.int ((iM m).2:O))] (g3 sq a b code r) K:=by
 obtain⟨ht,lQ,kP⟩:=sf hm;refine IW (high:=h) (aD:=(iM m).1+more) rfl (pX ..).symm (x.fdiv 12) (eP (qA hz (eN lQ F3)) (by decide)) λfs hF hl=>?_;have jT:fs.length<=3:=hl▸aL (fW _ _) (eN lQ F3);have nJ:(code++fs).length<100000:=by rw[bA];exact bT (qA hz jT) (by decide)
 have RA:(L++[xS bl m]).length<=1000:=by rw[bA];exact aL (dP dE 1) (by decide)
 have q:∀o ys,bQ (cx sc) (Cl sc (d+1)) (qE.drop 6) [Z (.ref 1),Z (.ref 2),Z (.int (h+fs.length:O)),Z (.ref (k+3)),Z (.bool bl),Z (.int x),Z (.int m),Z (.int more),Z (.ref ((r++[o]++[bY.list ys]).length+3)),aB,Z (.int ((iM m).1:O)),Z (.int ((iM m).2:O))] (g3 sq a b (code++fs++[rO bl more (De m)]) (r++[o]++[.list ys]++[pQ (L++[xS bl m])])) K:=λo ys=>by
  rw[fB code fs];exact q fs _ _ hF hl (((gU.refl r).dI.dI).dI) eA
 have RB:∀o,(r++[o])[k]?=Z (pQ L):=λo=>lH hL;cases bl with
 | true=>
  have h0:=hb rfl;subst h0;refine Ik eA (Fk eA (HY (K9 hm).1 (Jb (i:=.loop (De m)) nJ ?_)));exact Pz (LL:=L++[xS u m]) (RB _) (by rw[kM];rfl) RA (q _ _)
 | false=>
  have Rk:more=0\/more=1:=(zh more 1).imp PL.mp λh1=>BM F3 h1;rcases Rk with rfl|rfl
  ·refine Ik eA (Fk eA (HY (K9 hm).1 (Jb (i:=.block (De m)) nJ ?_)))
   exact Pz (LL:=L++[xS aE m]) (RB _) (by rw[kM];rfl) RA (q _ _)
  ·refine Ik eA (Fk eA (HY (K9 hm).1 (Jb (i:=.iff (De m)) nJ ?_)))
   exact Pz (LL:=L++[xS aE m]) (RB _) (by rw[kM];rfl) RA (q _ _)
end
def JU(sc sq:Y J)(d n:O):Prop:=∀(a fA:O) (code:Y aI) (r:Hp) (k:O) (L:Y (O×aC)) (h:O) (Q:PE),r[k]?=Z (pQ L)->qX L->5<=L.length+n->code.length+h+16*fA<=800->a+3*fA<=899->
 (∀h' bL r' a2 iL,dR L (Z h) bL h'->bL.length+h'.getD 0+16*iL<=h+16*fA->a2+3*iL<=a+1+3*fA->iL<=fA->gU r r'->Q (hV h') (g3 sq a2 iL (code++bL) r'))->
 Wf sc d 92 [.ref 1,.ref 2,.int h,.ref (k+3)] (g3 sq a fA code r) Q
theorem Qd{fC:aG O}: D6 (fC.map λ_=>r) r:=by
 cases fC with
 | none=>exact .inr rfl
 | some n=>exact .inl rfl
theorem Sp{s t m x y:O}(hl:s+n+x<=p+y)(e:t=n-m+(m-n)):s+t+x<=p+m+y:=by have e1:t<=n+m:=e▸eN (fW n m) (fW m n);exact aL (dP (eR e1 s) x) (by rw[<-gC s n m,hS _ m x,hS p m y];exact dP hl m)
section
variable{a b rr more:O}{Q:PE}{r:Hp}{x:J}{K:PS}{o0 o3 o4 o5 o6:aG V}
theorem OL(hz:code.length<80000)(jG:p+more<=h)(q:Q (.int (h-p-more+rr:O)) (g3 sq a b (code++[.aS]) r)):
  bQ (cx sc) cl (qE.drop 10) [o0,Z (.ref 2),Z (.int h),o3,o4,o5,o6,Z (.int more),o8,o9,Z (.int p),Z (.int rr)] (g3 sq a b code r) λfl _ h1=>Q (gT fl) h1:=by
 have e:(h:J)-p-more+rr=(h-p-more+rr:O):=by rw[pX,JD,yJ jG,pX,O7]
 rw[<-e]at q;exact FZ (i:=.aS) (bT hz (by decide)) q
theorem lV'(hz:code.length<80000)(jG:p<=h)(hp:p<=2)(q:Q (.int (h-p-0+p:O)) (g3 sq a b (code++[.aS]) r)):
  bQ (cx sc) (Cl sc (d+2)) (qE.drop 7) [o0,Z (.ref 2),Z (.int h),o3,Z (.bool u),o5,o6,Z (.int (0:O)),o8,Z .none,Z (.int p),Z (.int p)] (g3 sq a b code r) λfl _ h1=>Q (gT fl) h1:=by
 refine IY [] (h:=aB) (aD:=p) rfl (aL hp (by decide)) (nD _) hz λbL hs hl=>?_;rw[Dr hl,pH];exact OL hz jG q
theorem lW'(hz:code.length<70000)(jG:p<=h)(hp:p<=2)(hn:n<=1000)(q:∀s3 r',dR L (Z n) s3 (Z p)->s3.length=n-p+(p-n)->gU r r'->Q (.int (h-p-0+p:O)) (g3 sq a b (code++s3++wD++[.aS]) r')):
  bQ (cx sc) (Cl sc (d+2)) (qE.drop 7) [o0,Z (.ref 2),Z (.int h),o3,Z (.bool u),o5,o6,Z (.int (0:O)),o8,Z (.int n),Z (.int p),Z (.int p)] (g3 sq a b code r) λfl _ h1=>Q (gT fl) h1:=by
 have step:∀K:PS,(∀s3 r',dR L (Z n) s3 (Z p)->s3.length=n-p+(p-n)->gU r r'->K .next [o0,Z (.ref 2),Z (.int h),o3,Z (.bool u),o5,o6,Z (.int (0:O)),o8,Z (.int p),Z (.int p),Z (.int p)] (g3 sq a b (code++s3++wD) r'))->
   bQ (cx sc) (Cl sc (d+2)) (LA qE[7]?) [o0,Z (.ref 2),Z (.int h),o3,Z (.bool u),o5,o6,Z (.int (0:O)),o8,Z (.int n),Z (.int p),Z (.int p)] (g3 sq a b code r) K:=λK q=>
  IY L (h:=Z n) (aD:=p) rfl (aL hp (by decide)) hn (bT hz (by decide)) λs3 hs hl=>Qi (t:=wD) rfl (by
   have hl:s3.length=n-p+(p-n):=hl;rw[bA];exact bT (n9 hz hp hn hl) (by decide)) (q s3 _ hs hl (gU.refl r).dI)
 refine step _ λs3 r' hs hl he=>?_;have Bs:(code++s3++wD).length<80000:=by
  rw[bA,bA];exact bT (n9 hz hp hn hl) (by decide)
 refine IY [] (h:=Z p) (aD:=p) rfl (aL hp (by decide)) (aL hp (by decide)) Bs λs5 Zv J8=>?_;have J8:s5.length=p-p+(p-p):=J8;have e5:s5=[]:=Dr (by rw[J8,qB]);rw[e5,pH];exact OL Bs jG (q s3 r' hs hl he)
theorem kS'{m:O}(hi:JU sc sq (d+2) m){fA xP:O}{LI:Y (O×aC)}(lY:r[xP]?=Z (pQ LI))(ok:qX LI)(hn:5<=LI.length+m)(hz:code.length+1+p+16*fA<=800)(uP:a+3*fA<=899)(hr:rr<=2)
  (q:∀pN Em s6 r' a2 sE,dR LI (Z p) Em pN->dR LI pN s6 (pN.map λ_=>rr)->Em.length+s6.length+16*sE<=p+rr+16*fA->a2+3*sE<=a+1+3*fA->sE<=fA->gU r r'->K .next [Z (.ref 1),Z (.ref 2),o3,o4,o5,o6,o8,o9,Z (.ref (xP+3)),o0,Z (.int p),Z (.int rr)] (g3 sq a2 sE (code++[.dG]++Em++s6) r')):
  bQ (cx sc) (Cl sc (d+2)) (LA qE[9]?) [Z (.ref 1),Z (.ref 2),o3,o4,o5,o6,o8,o9,Z (.ref (xP+3)),o0,Z (.int p),Z (.int rr)] (g3 sq a fA code r) K:=by
 have M6:(code++[aI.dG]).length=code.length+1:=by rw[bA];rfl
 have h8:code.length<=800:=aL (bU _ 1) (aL (bU _ p) (aL (bU _ _) hz));have h9:p+16*fA<=800:=aL (dL _ (code.length+1)) (gC _ p _▸hz);refine FZ (i:=.dG) (cM h8 (by decide)) (hi a fA _ r xP LI p _ lY ok hn (by rw[M6];exact hz) uP λpN Em r2 a2 sE hs hl ha hb hE=>?_);have dE:(code++[aI.dG]++Em).length<80000:=by rw[bA,M6];exact cM (eN (dP h8 1) (aL (aL (bU _ _) (bU _ _)) (aL hl h9))) (by decide)
 refine IY LI (h:=pN) (aD:=rr) rfl (aL hr (by decide)) (aL (aL (dL _ _) (bU _ _)) (aL hl (aL h9 (by decide)))) dE λs6 KD F1=>q pN Em s6 r2 a2 sE hs KD ?_ ha hb hE;clear q;cases pN with
 | none=>
  have q1:s6.length=0:=F1;rw[q1];exact aL hl (dP (bU p rr) _)
 | some n=>
  exact Sp hl F1
end
theorem AG{h':O}{s:Y aI}(x:dR L (Z h) s (Z h'))(e:h=k)(e':h'=k'):dR L (Z k) s (Z k'):=by subst e e';exact x
section
variable{a f s s3 l aN v:Y aI}{i j e:aI}
theorem y8:a++(f++[i])++s++[j]=a++(f++(i::(s++[j]))):=by simp
theorem y9:a++(f++[i])++s++s3++l++[j]=a++(f++(i::(((s++s3)++l)++[j]))):=by simp
theorem z6:a++(f++[i])++s++s3++[j]=a++(f++(i::((s++s3)++[j]))):=by simp
theorem z7:a++(f++[i])++s++s3++[e]++aN++v++[j]=a++(f++(i::((s++s3)++e::((aN++v)++[j])))):=by simp
end
theorem So{c b w s b2:O}(hz:c+h+16*(b+1)<=800)(hw:w<=3)(hs:s+16*b2<=k+16*b)(hk:k<=4):c+w+1+s+1+2+16*b2<=800:=by lia
theorem NX{x:O}(hn:800<=n)(h:x+1+2+k<=800):x<n:=aL (aL (bU _ 2) (aL (bU _ k) h)) hn
theorem NY{f v:Y aI}{i j:aI}{aN h b b2 k rr:O}(hu:aN<=h)(hw:f.length<=3)(hs:v.length+16*b2<=k+16*b)(hk:k+rr<=11):(f++(i::(v++[j]))).length+(aN+rr)+16*b2<=h+16*(b+1):=by rw[bA,wP,bA];show f.length+(v.length+1+1)+(aN+rr)+16*b2<=h+16*(b+1);revert hs hw;generalize v.length=x;generalize f.length=y;intro hw hs;lia
theorem cq{c b s x:O}(hz:c+h+16*(b+1)<=800)(hp:p<=2)(hl:s+n+x<=p+16*b):n<=1000:=aL (aL (dL n s) (bU _ x)) (aL hl (aL (eN hp (aL (yQ 16 (nC b)) (aL (dL _ _) hz))) (by decide)))
theorem lb6{s x y:O}(hl:s+x<=p+y):s+5+x<=p+5+y:=by rw[hS s,hS p];exact dP hl 5
theorem lb7{s t x y z:O}(h1:k+1+2+x<=800)(h2:s+t+z<=y+x)(h:y<=4):k+1+s+t<80000:=by rw[gC (k+1)];exact cM (eN (aL (aL (bU (k+1) 2) (bU _ x)) h1) (aL (aL (bU (s+t) z) h2) (eN h (aL (dL x _) h1)))) (by decide:800+(4+800)<80000)
theorem lb8{a b x y:O}(h:x+y<=a+1+b):x+1+y<=a+2+b:=by rw[hS,hS a];exact gP (hS a 1 b▸h)
theorem lb9{a b:O}(h:a+b<=n):a+1+b<=n+1:=hS a 1 b▸gP h
theorem lb4{s t q x y z:O}(h1:s+x<=q+y)(h2:t+z<=q+x):s+(t+1)+z<=2*q+1+y:=by rw[<-gC s t 1,hS (s+t),gC s t z,Nat.two_mul,hS (q+q),gC q q y];exact gP (aL (eR h2 s) (aL (dH (Nat.add_left_comm ..)) (eR h1 q)))
section
variable{a fA rr more:O}{Q:PE}{r:Hp}{x:J}{K:PS}{bl:aC}
theorem kU'{l:V}
  (q:∀m more:O,m<6->more<=1->(bl=u->(iM m).1=(iM m).2/\more=0)->bQ (cx sc) (Cl sc (d+1)) (qE.drop 3) [Z (.ref 1),Z (.ref 2),Z (.int h),Z l,Z (.bool bl),Z (.int x),Z (.int (m:O)),Z (.int (more:O)),aB,aB,Z (.int ((iM m).1:O)),Z (.int ((iM m).2:O))] (g3 sq a fA code (r++[.list qM]++[.list qM])) K):
  bQ (cx sc) (Cl sc (d+1)) qE [Z (.ref 1),Z (.ref 2),Z (.int h),Z l,Z (.bool bl),Z (.int x),aB,aB,aB,aB,aB,aB] (g3 sq a fA code r) K:=kT' (H:=g3 sq a fA code r) q
theorem lO'(hi:JU sc sq (d+2) n)(hL:r[k]?=Z (pQ L))(ok:qX L)(cQ:L.length<5)(hn:5<=L.length+1+n)(hz:code.length+h+16*(fA+1)<=800)(uP:a+3*fA<=898)
  (q:∀h' bL r' a2 iL,dR L (Z h) bL (Z h')->bL.length+h'+16*iL<=h+16*(fA+1)->a2+3*iL<=a+2+3*fA->iL<=fA->gU r r'->Q (.int (h':O)) (g3 sq a2 iL (code++bL) r')):
  Wf sc (d+3) 91 [.ref 1,.ref 2,.int h,.ref (k+3),.bool bl,.int x] (g3 sq a fA code r) Q:=by
 refine cF rfl rfl (kU' (K:=λfl _ h1=>Q (gT fl) h1) λm more hm F3 hb=>?_);obtain⟨ht,lQ,kP⟩:=sf hm;have e:=kV' (sc:=sc) (sq:=sq) (d:=d+1) (a:=a) (b:=fA) (h:=h) (k:=k) (r:=r++[.list qM]++[.list qM]) (code:=code) (L:=L) (x:=x) (bl:=bl) (m:=m) (more:=more) (K:=λfl _ h1=>Q (gT fl) h1);refine e ?_ (lH (lH hL)) hm F3 (λq=>(hb q).2) ?_ (lO cQ) ?_;exact cM (aL (bU _ _) (aL (bU _ _) hz)) (by decide);exact aL (aL (dL _ _) (aL (bU _ _) hz)) (by decide);clear e;intro fs r1 xP hF jT hE lY;have Fw:gU r r1:=((gU.refl r).dI.dI).trans hE;have sF:=hF.bL (L:=L) (n:=h);have oW:(xS bl m).1<=2:=by
  cases bl;exact kP;exact lQ
 have TZ:qX (L++[xS bl m]):=ok.more cQ oW;have ZL:(code++(fs++[rO bl more (De m)])).length=code.length+fs.length+1:=by rw[bA,bA];rfl
 have Rm:5<=(L++[xS bl m]).length+n:=by rw[bA];exact hn
 have hw:fs.length<=(iM m).1+more:=jT▸fW _ _;have GD:fs.length<=3:=aL hw (eN lQ F3);have jG:(iM m).1+more<=h+fs.length:=by rw[jT,nB h];exact Nat.le_add_of_sub_le (cE _)
 clear jT;refine hi a fA _ r1 xP _ (iM m).1 _ lY TZ Rm ?_ (nP uP) ?_
 ·rw[ZL]
  exact aL (dP (eN (bU _ 1) lQ) _) (So (s:=0) (k:=0) hz GD (cE _) (by decide))
 intro fC sg r2 a2 sE hs hl ha qI Mq;have ZG:=Mq _ _ lY;have Mn:=Fw.trans Mq;generalize hp:(iM m).1=p at *;generalize hr:(iM m).2=rr at *;generalize De m=t at *;obtain⟨aN,hu⟩:=za jG;have NI:h+fs.length-p-more=aN:=by rw[<-hu,JD];exact wQ _ _
 have NJ:aN<=h:=Nat.le_of_add_le_add_left (a:=p+more) (by rw[hu,nB h];exact dP hw h);have J0:a2+3*sE<=a+2+3*fA:=aL ha (dP (nC _) _);show bQ (cx sc) (Cl sc (d+2)) (qE.drop 7) [Z (.ref 1),Z (.ref 2),Z (.int (h+fs.length:O)),Z (.ref (k+3)),Z (.bool bl),Z (.int x),Z (.int m),Z (.int more),Z (.ref (xP+3)),Z (hV fC),Z (.int p),Z (.int rr)] (g3 sq a2 sE (code++(fs++[rO bl more t])++sg) r2) λfl _ h1=>Q (gT fl) h1;have EU:(code++(fs++[rO bl more t])++sg).length=code.length+fs.length+1+sg.length:=by rw[bA,ZL]
 have mA:=So hz GD (aL (dP (bU _ _) _) hl) (aL lQ (by decide));cases bl with
 | true=>
  obtain⟨R2,qL⟩:=hb rfl;subst qL;rw[<-R2]at ht kP ⊢;have Rf:xS u m=(p,u):=by unfold xS;rw[hp];rfl
  rw[Rf]at hs;have jG:p<=h+fs.length:=jG;have KF:aN+p=h+fs.length:=(nB aN p).trans hu;cases fC with
  | none=>
   refine lV' (by rw[EU];exact NX (by decide) mA) jG lQ ?_;rw[y8,NI];exact q _ _ r2 a2 sE (sF.dI (AG (.Sx ht hs) KF rfl)) (NY NJ GD hl (eN (aL lQ (by decide:2<=9)) lQ)) J0 qI Mn
  | some nn=>
   refine lW' (L:=L++[(p,u)]) (by rw[EU];exact NX (by decide) mA) jG lQ (cq hz lQ hl) λs3 r' Ap vU EQ=>?_;rw[y9,NI];refine q _ _ r' a2 sE (sF.dI (AG (.loop ht (hs.dI Ap)) KF rfl)) (NY NJ GD (k:=p+p+5) ?_ ?_) J0 qI (Mn.trans EQ)
   ·rw[bA,bA]
    exact lb6 (Sp hl vU)
   ·exact eN (eN (eN lQ lQ) (cE 5)) lQ
 | false=>
  have Rf:xS aE m=(rr,aE):=by unfold xS;rw[hr];rfl
  rw[Rf]at hs ZG TZ Rm;have hh:fC.getD 0<=1000:=cq hz lQ hl;refine IY (L++[(rr,aE)]) (h:=fC) (aD:=rr) rfl (aL kP (by decide)) hh (by rw[EU];exact NX (by decide) mA) λs3 Ap vU=>?_;have Re:sg.length+s3.length+16*sE<=p+rr+16*fA:=by
   cases fC with
   | none=>
    have q1:s3.length=0:=vU;rw[q1];exact aL hl (dP (bU p rr) _)
   | some n=>exact Sp hl vU
  have NG:p+rr<=4:=eN lQ kP;have GF:code.length+fs.length+1+(sg.length+s3.length)+1+2+16*sE<=800:=So hz GD Re NG;have R5:=dR.dI hs Ap;have Al:D6 (fC.map λ_=>rr) rr:=Qd;have Rh:(code++(fs++[rO aE more t])++sg++s3).length=code.length+fs.length+1+(sg.length+s3.length):=by rw[bA,EU,gC]
  show bQ (cx sc) (Cl sc (d+2)) (qE.drop 9) [Z (.ref 1),Z (.ref 2),Z (.int (h+fs.length:O)),Z (.ref (k+3)),Z (.bool aE),Z (.int x),Z (.int m),Z (.int more),Z (.ref (xP+3)),Z (hV fC),Z (.int p),Z (.int rr)] (g3 sq a2 sE (code++(fs++[rO aE more t])++sg++s3) r2) λfl _ h1=>Q (gT fl) h1;clear mA hl vU hb oW hh;have plain:∀{i:aI},i=rO aE more t->dR L (Z (h+fs.length)) (i::((sg++s3)++[.aS])) (Z (aN+rr))->
    bQ (cx sc) (Cl sc (d+2)) (qE.drop 10) [Z (.ref 1),Z (.ref 2),Z (.int (h+fs.length:O)),Z (.ref (k+3)),Z (.bool aE),Z (.int x),Z (.int m),Z (.int more),Z (.ref (xP+3)),Z (hV fC),Z (.int p),Z (.int rr)] (g3 sq a2 sE (code++(fs++[rO aE more t])++sg++s3) r2) λfl _ h1=>Q (gT fl) h1:=λ{i} ei R8=>by
   refine OL (by rw[Rh];exact NX (by decide) GF) jG ?_;rw[z6,<-ei,NI];exact q _ _ r2 a2 sE (sF.dI R8) (NY NJ GD (by rw[bA];exact Re) (eN (aL NG (by decide:4<=9)) kP)) J0 qI Mn
  have Rk:more=0\/more=1:=by
   rcases zh more 1 with h1|h1
   exact .inl (PL.mp h1);exact .inr (BM F3 h1)
  rcases Rk with rfl|rfl
  ·exact plain (i:=.block t) rfl (AG (.block ht R5 Al) ((nB aN p).trans hu) rfl)
  ·have KF:aN+p+1=h+fs.length:=(nB aN (p+1)).trans hu
   have dG:bQ (cx sc) (Cl sc (d+2)) (LA qE[9]?) [Z (.ref 1),Z (.ref 2),Z (.int (h+fs.length:O)),Z (.ref (k+3)),Z (.bool aE),Z (.int x),Z (.int m),Z (.int (1:O)),Z (.ref (xP+3)),Z (hV fC),Z (.int p),Z (.int rr)] (g3 sq a2 sE (code++(fs++[rO aE 1 t])++sg++s3) r2) (kJ (λI h=>bQ (cx sc) (Cl sc (d+2)) (qE.drop 10) I h λfl _ h1=>Q (gT fl) h1) λfl _ h1=>Q (gT fl) h1):=by
    refine kS' hi ZG TZ Rm (by rw[Rh];exact aL (dP (eR lQ _) _) GF) ?_ kP λpN Em s6 r' a3 Jh Zv KD F1 J1 J2 EQ=>?_;exact aL ha (lb9 uP);refine OL (by rw[bA,bA,bA,Rh];exact lb7 GF F1 NG) jG ?_;rw[z7,NI];refine q _ _ r' a3 Jh (sF.dI (AG (.dG ht R5 Al (Zv.dI KD) Qd) KF rfl)) ?_ (aL J1 (lb8 ha)) (aL J2 qI) (Mn.trans EQ);have:=NY (i:=rO aE 1 t) (j:=.aS) (v:=(sg++s3) ++ .dG::(Em++s6)) (k:=2*(p+rr)+1) NJ GD (by rw[bA,bA,wP,bA];exact lb4 Re F1) (eN (dP (yQ 2 NG) 1) kP);rwa [fB,LS]at this
   refine fU (λhc=>oY hc dG) λhc=>fU (λ_=>dG) λhc2=>?_;have hc:(!((p:J)==(rr:J)))=aE:=hc;have R2:p=rr:=wq λgF=>by
    rw[show ((p:J)==(rr:J))=aE from jB.mpr λq=>gF (pY q)]at hc;exact mX (show u=aE from hc)
   subst R2;exact plain (i:=.iff t) rfl (AG (.iff ht R5 Al) KF rfl)
end
def Lu(sc sq:Y J)(d n:O):Prop:=∀(a fA:O) (code:Y aI) (r:Hp) (k:O) (L:Y (O×aC)) (h:O) (Q:PE),r[k]?=Z (pQ L)->qX L->5<=L.length+n->code.length+h+16*(fA+1)<=800->a+3*(fA+1)<=900->
 (∀h' bL r' a2 iL,dR L (Z h) bL h'->bL.length+h'.getD 0+16*iL<=h+16*(fA+1)->a2+3*iL<=a+3*(fA+1)->iL<=fA->gU r r'->Q (hV h') (g3 sq a2 iL (code++bL) r'))->
 Wf sc d 93 [.ref 1,.ref 2,.int h,.ref (k+3)] (g3 sq a (fA+1) code r) Q
theorem lC'(hi:Lu sc sq (d+1) n):JU sc sq (d+2) n:=by
 intro a fA code r k L h Q hL ok hn hz uP q;refine cF rfl rfl (mz (by clear q hi;lia) λx=>?_);obtain⟨f0,f3⟩:=xH x 3 (by decide);have e:(1:J)+x.fmod 3=((1+(x.fmod 3).toNat:O):J):=by rw[pX,pG f0];rfl
 refine DX (UT (mZ (by decide:(-1000000:J)<1+0) (CR f0 1)) (yI (O5 f3 1) (by decide))) (GP e (λj I H=>Wr (λhh v _ _ _ _=>I=[Z (.ref 1),Z (.ref 2),Z (hV hh),Z (.ref (k+3)),v]) (λ_ _ a2 iL bL r'=>H=g3 sq a2 iL (code++bL) r') (λhh _ _ _ bL _=>dR L (Z h) bL hh) (λhh _ _ iL bL _=>bL.length+hh.getD 0+16*iL<=h+16*fA) (λ_ _ a2 iL _ _=>a2+3*iL<=a+1+3*fA) (λ_ _ _ iL _ _=>iL<=fA) (λ_ _ _ _ _ r'=>gU r r')) ?_ ?_ ?_);exact⟨Z h,aB,a+1,fA,[],r,rfl,by rw[pH],.nil,by show 0+h+16*fA<=_;rw[nQ];exact cE _,cE _,cE _,gU.refl r⟩
 ·intro I H j
  obtain⟨hh,v,a2,iL,bL,r',e1,e2,hs,hl,ha,hb,hE⟩:=j;rw[e1,e2];exact q hh bL r' a2 iL hs hl ha hb hE
 ·intro j I H hj jj go fL
  obtain⟨hh,v,a2,iL,bL,r',e1,e2,hs,hl,ha,hb,hE⟩:=jj;rw[e1,e2];have qm:go [Z (.ref 1),Z (.ref 2),Z (hV hh),Z (.ref (k+3)),Z (.int (j:O))] (g3 sq a2 iL (code++bL) r'):=fL _ _ ⟨hh,_,a2,iL,bL,r',rfl,rfl,hs,hl,ha,hb,hE⟩;refine AW (λ_=>qm) λhc=>?_;have hc:(iL:J)>0:=fY hc;cases hh with
  | none=>exact qm
  | some h2=>
   obtain⟨b,rfl⟩:∃b,iL=b+1:=⟨iL-1,(jH (eZ.mp hc)).symm⟩;have hl:bL.length+h2+16*(b+1)<=h+16*fA:=hl;refine hi a2 b (code++bL) r' k L h2 _ (hE _ _ hL) ok hn ?_ ?_ λh' s2 r2 a3 Jh EZ vU J1 J2 EQ=>fL _ _ ⟨h',_,a3,Jh,bL++s2,r2,rfl,by rw[fB],hs.dI EZ,?_,?_,?_,hE.trans EQ⟩;rw[bA];exact ik' hl hz;exact aL ha (hS a 1 _▸gP uP);rw[bA];exact df hl vU;exact aL J1 ha;exact aL J2 (kT hb)
noncomputable def QT:Y (J×V):=[(4,.int 2),(9,.int 3),(15,.int 2)]
noncomputable def Xe(op y:J):Y (J×V):=[(4,.aM [.int op]),(5,.aM [.int 69]),(6,.aM [.int 33,.int (y.fmod 3)]),(7,.aM [.int 34,.int (y.fmod 3)]),(8,.aM [.int 26]),(9,.aM [.int 27]),(15,.aM [.int 16,.int 0])]
noncomputable def Xf:Y (J×V):=[(4,.int 1),(6,.int 1),(8,.int 1),(9,.int 2)]
theorem pN'(y:J):∃op∈jL,∃j,kQ (y.fmod 7) 7=Z j/\(jL.map V.int)[j]?=Z (.int op):=by obtain⟨f0,f1⟩:=xH y 7 (by decide);have cQ:(y.fmod 7).toNat<jL.length:=(yK f0).mpr f1;have:=tP (n:=7) cQ;rw[pG f0]at this;exact⟨_,AO cQ,_,this,pT (cS cQ)⟩
inductive u7(L:Y (O×aC))(op y w:J):Prop where
 | mk(aD B9:O)(i:aI)(_:(fR QT w).getD (.int 1)= .int aD)(_:(fR (Xe op y) w).getD (.aM [.int 1])=i.v)(_:(fR Xf w).getD (.int 0)= .int B9)(_:aD<=3)(_:B9<=aD)(_:∀k,aD<=k->dR L (Z k) [i] (Z (k-B9)))
theorem ka'{w y:J}(gX:op∈jL)(w0:4<=w)(w1:w<12\/w=15)(L:Y (O×aC)):u7 L op y w:=by
 obtain⟨y0,y3⟩:=xH y 3 (by decide);have cw:w=4\/w=5\/w=6\/w=7\/w=8\/w=9\/w=10\/w=11\/w=15:=ii' w0 w1;rcases cw with rfl|rfl|rfl|rfl|rfl|rfl|rfl|rfl|rfl
 exact⟨2,1,.dX op,rfl,rfl,rfl,by decide,by decide,λk hk=>AG (.dX (h:=k-2) gX) (jH hk) (TL hk)⟩;exact⟨1,0,.jQ,rfl,rfl,rfl,by decide,by decide,λk hk=>AG (.jQ (h:=k-1)) (jH hk) (jH hk)⟩;exact⟨1,1,.set (y.fmod 3),rfl,rfl,rfl,by decide,by decide,λk hk=>AG (.set (h:=k-1) y0 y3) (jH hk) rfl⟩;exact⟨1,0,.mF (y.fmod 3),rfl,rfl,rfl,by decide,by decide,λk hk=>AG (.mF (h:=k-1) y0 y3) (jH hk) (jH hk)⟩;exact⟨1,1,.drop,rfl,rfl,rfl,by decide,by decide,λk hk=>AG (.drop (h:=k-1)) (jH hk) rfl⟩;exact⟨3,2,.kI,rfl,rfl,rfl,by decide,by decide,λk hk=>AG (.kI (h:=k-3)) (jH hk) (TL hk)⟩;exact⟨1,0,.pA,rfl,rfl,rfl,by decide,by decide,λk hk=>.pA⟩;exact⟨1,0,.pA,rfl,rfl,rfl,by decide,by decide,λk hk=>.pA⟩;exact⟨2,0,.call,rfl,rfl,rfl,by decide,by decide,λk hk=>AG (.call (h:=k-2)) (jH hk) (jH hk)⟩
section
variable{a b:O}{Q:PE}{r:Hp}{w y:J}{o0 o3:aG V}
theorem md'(hz:code.length<80000)(w0:4<=w)(w1:w<12\/w=15)(L:Y (O×aC))(q:∀h' bL r',dR L (Z h) bL (Z h')->bL.length+h'<=h+16->gU r r'->Q (.int (h':O)) (g3 sq a b (code++bL) r')):
  bQ (cx sc) (Cl sc (d+1)) (HO.drop 6) [o0,Z (.ref 2),Z (.int h),o3,Z (.int y),aB,Z (.int w)] (g3 sq a b code r) λfl _ h1=>Q (gT fl) h1:=by
 obtain⟨op,gX,j,C9,hv⟩:=pN' y;obtain⟨aD,B9,i,h1,h2,h3,hm,hl,hs⟩:=ka' (y:=y) gX w0 w1 L;refine Ik eA (Fk eA (HY h1 ?_));show bQ (cx sc) (Cl sc (d+1)) (HO.drop 7) [o0,Z (.ref 2),Z (.int h),o3,Z (.int y),Z (.int aD),Z (.int w)] (g3 sq a b code (r++[.dict QT aB])) λfl _ h1=>Q (gT fl) h1;refine IW (high:=h) (aD:=aD) rfl rfl (y.fdiv 7) (eP (qA hz hm) (by decide)) λfs hF jT=>?_;obtain⟨sF,jG⟩:=MX (L:=L) hF jT;have RU:fs.length<=3:=by rw[jT];exact aL (fW ..) hm
 have dE:(code++fs).length<100000:=by rw[bA];exact eP (qA hz RU) (by decide)
 have e:((h+fs.length:O):J)-B9=(h+fs.length-B9:O):=(yJ (aL hl jG)).symm;refine uS C9 hv (Ik eA (Fk eA (HY h2 (Jb (i:=i) dE (Ik eA (Fk eA (HY h3 ?_)))))));have q:=q (h+fs.length-B9) (fs++[i]) (r++[.dict QT aB]++[.dict (Xe op y) aB]++[.dict Xf aB]) (sF.dI (hs _ jG)) (by rw[bA];exact (show fs.length+1+(h+fs.length-B9)<=h+16 from aL (eN (dP RU 1) (aL (fW ..) (eR RU h))) (by rw[nB];exact eR (by decide:3+(3+1)<=16) h))) (gU.refl r).dI.dI.dI;rw[<-e,<-fB]at q;exact q
end
section
variable{a b:O}{Q:PE}{r:Hp}{w y:J}{K:PS}
theorem lB'(hb:L.length<5->fQ (λm=>n=m+1) (λm=>JU sc sq (d+2) m))(hL:r[k]?=Z (pQ L))(ok:qX L)(hn:5<=L.length+n)(hz:code.length+h+16*(b+1)<=800)(uP:a+3*b<=898)(w0:0<=w)(w1:w<16)
  (q:∀h' bL r' a2 iL,dR L (Z h) bL h'->bL.length+h'.getD 0+16*iL<=h+16*(b+1)->a2+3*iL<=a+2+3*b->iL<=b->gU r r'->Q (hV h') (g3 sq a2 iL (code++bL) r')):
  bQ (cx sc) (Cl sc (d+3)) (HO.drop 3) [Z (.ref 1),Z (.ref 2),Z (.int h),Z (.ref (k+3)),Z (.int y),aB,Z (.int w)] (g3 sq a b code r) λfl _ h1=>Q (gT fl) h1:=by
 have NK:code.length<80000:=cM (aL (aL (bU _ _) (bU _ _)) hz) (by decide);have vR:(g3 sq a b code r)[k+3]?=Z (pQ L):=hL;have q0:∀h' bL r',dR L (Z h) bL h'->bL.length+h'.getD 0<=h+16->gU r r'->Q (hV h') (g3 sq a b (code++bL) r'):=λh' bL r' hs hl hE=>q h' bL r' a b hs (TF hl) (dP (bU a 2) _) (cE _) hE;obtain⟨y0,y3⟩:=xH y 3 (by decide);refine fU (λh4=>?_) λh4=>?_
 ·have eY:∀i:aI,dR L (Z h) [i] (Z (h+1))->Q (.int ((h:J)+1)) (g3 sq a b (code++[i]) r):=λi hs=>q0 (Z (h+1)) [i] r hs (by show 1+(h+1)<=_;rw[nB];exact eR (by decide:2<=16) h) (gU.refl r)
  refine fU (λ_=>?_) λ_=>?_;exact FZ (i:=.const (y.fmod 9-2)) (bT NK (by decide)) (eY _ .const);exact FZ (i:=.get (y.fmod 3)) (bT NK (by decide)) (eY _ (.get y0 (yI y3 (by decide))))
 have h4: ¬ w<4:=AQ h4;have plain:(w<12\/w=15)->bQ (cx sc) (Cl sc (d+3)) (HO.drop 6) [Z (.ref 1),Z (.ref 2),Z (.int h),Z (.ref (k+3)),Z (.int y),aB,Z (.int w)] (g3 sq a b code r) λfl _ h1=>Q (gT fl) h1:=λh5=>
  md' (d:=d+2) NK (oD.mp h4) h5 L λh' bL r' hs hl hE=>q0 (Z h') bL r' hs hl hE
 have lT:bQ (cx sc) (Cl sc (d+3)) (HO.drop 5) [Z (.ref 1),Z (.ref 2),Z (.int h),Z (.ref (k+3)),Z (.int y),aB,Z (.int w)] (g3 sq a b code r) λfl _ h1=>Q (gT fl) h1:=by
  refine fU (λh5=>fU (λh6=>?_) λh6=>plain (.inr ?_)) λh5=>plain (.inl ?_)
  ·have h5:11<w:=fY h5
   have h6:w<15:=fY h6;exact lD' (d:=d+1) NK hL ok (by clear q hb q0 plain;lia) (by clear q hb q0 plain;lia) λh' bL r' hs hl hE=>q0 h' bL r' hs (aL hl (eR (by decide) _)) hE
  exact xf (Int.le_of_lt_add_one w1) (oD.mp (AQ h6));exact qV (oD.mp (AQ h5)) (by decide)
 refine AW (λ_=>lT) λ_=>pR vR (fU (λh5=>?_) λ_=>lT);have h5:((L.map DG).length:J)<5:=fY h5;rw[cJ]at h5;obtain⟨m,em,hm⟩:=hb (eZ.mp h5);exact lO' hm hL ok (eZ.mp h5) (by rw[em]at hn;clear q hb q0 plain lT hm;lia) hz uP λh' bL r' a2 iL hs hl ha qI hE=>q (Z h') bL r' a2 iL hs hl ha qI hE
theorem mh(hb:∀(L:Y (O×aC)),5<=L.length+n->L.length<5->fQ (λm=>n=m+1) (λm=>JU sc sq (d+2) m)):Lu sc sq (d+4) n:=by
 intro a fA code r k L h Q hL ok hn hz uP q;have e:(((fA+1:O):J)-1)=fA:=Dp (fA:J) 1;refine cF rfl rfl (iQ (ρ':=[Z (.ref 1),Z (.ref 2),Z (.int h),Z (.ref (k+3)),aB,aB,aB]) (H':=g3 sq a fA code r) (λK q=>?_) (mz (by clear q hb;lia) λx=>?_))
 ·have q:K .next [Z (.ref 1),Z (.ref 2),Z (.int h),Z (.ref (k+3)),aB,aB,aB] (.list (sq.map .int):: .list [.ref 0,.int a,.int (((fA+1:O):J)-1)]::pL code::r):=by rw[e];exact q
  exact q
 obtain⟨f0,f1⟩:=xH x 16 (by decide);exact lB' (d:=d) (w:=x.fmod 16) (y:=x.fdiv 16) (hb L hn) hL ok hn hz (by clear q hb;lia) f0 f1 λh' bL r' a2 iL hs hl ha qI hE=>q h' bL r' a2 iL hs hl (by clear q hb;lia) qI hE
theorem bw:∀n d,Lu sc sq (3*n+4+d) n
 | 0,d=>by
  have:=mh (sc:=sc) (sq:=sq) (d:=d) (n:=0) λL h1 h2=>absurd h1 (by lia);rw[show 3*0+4+d=d+4 by lia];exact this
 | n+1,d=>by
  have hi:=bw n d;rw[show 3*n+4+d=(3*n+3+d)+1 by lia]at hi;have:=mh (sc:=sc) (sq:=sq) (d:=3*n+3+d) (n:=n+1) λL h1 h2=>⟨n,rfl,lC' hi⟩;rw[show 3*(n+1)+4+d=3*n+3+d+4 by lia];exact this
end
noncomputable def DO(n k i f:O):Y (O×V):=[(17,.ref k),(59,.ref i),(60,.ref f),(61,.ref (n+4)),(62,.ref (n+5)),(63,.ref (n+6)),(64,.ref (n+7)),(65,.none),(66,.ref (n+8)),(67,.ref (n+9)),(68,.ref (n+10))]
section
variable{o:bY}
variable{P:Hp}{c a:O}{v v':V}
theorem Yg: (P++T)[P.length+k]?=T[k]?:=by rw[oP (bU ..),wQ]
theorem K0{Q:Hp->Prop}(eH:H=P ++ .inst c fs::T)(ev:v=v')(hd:G.qF c a=u)(hf:uM fs a v'=fs')(q:Q (P ++ .inst c fs'::T)):bZ (Ia G (.ref P.length) a v H) Q:=by rw[eH,ev];refine .of (x:=P ++ .inst c fs'::T) ?_ q;show bE (bE (P++bY.inst c fs::T)[P.length]? B3) _=_;rw[show (P++bY.inst c fs::T)[P.length]?=Z (.inst c fs) from Yg (k:=0)];refine (pC hd).trans (aW Z ?_);rw[<-hf];exact oy rfl
theorem hN'(e:H[l]?=Z (.list xs))(q:Q (.ref H.length,H++[.list xs])):bZ (Fi G .list [.ref l] H) Q:=by refine .of (x:=(.ref H.length,H++[.list xs])) ?_ q;show bE (bE H[l]? qN) _=_;rw[e];rfl
theorem vM{x:bY}: (P++o::T)++[x]=P++o::(T++[x]):=fB P (o::T) [x]
theorem GM(h:T.length+1=n):V.ref (P++o::T).length=V.ref (P.length+n):=by rw[bA,wP,h]
end
section
variable{a c:O}
variable{P:Hp}{Q:PE}
theorem CG{T':Hp}{Q:PS}(h0:CA I 0=Z (.ref P.length))(hd:G.qF c a=u)(hn:T.length+1=n)(hf:uM fs a (.ref (P.length+n))=fs')(hT:T++[.list []]=T')(q:wZ G cl lT I (P ++ .inst c fs'::T') Q):wZ G cl (.dU (.D 0) a (.list [])::lT) I (P ++ .inst c fs::T) Q:=
by
 rw[Gu]at q ⊢;rw[Ey];exact .of h0 (K0 vM (GM hn) hd hf (hT▸q))
theorem kd'{v:V}{Q:PS}(h0:CA I 0=Z (.ref P.length))(hd:G.qF c a=u)(hf:uM fs a v=fs')(q:wZ G cl lT I (P ++ .inst c fs'::T) Q):wZ G cl (.dU (.D 0) a (.eT v)::lT) I (P ++ .inst c fs::T) Q:=
by
 rw[Gu]at q ⊢;rw[Ey];exact .of h0 (K0 rfl rfl hd hf q)
theorem lw'{v1 v2 v3 v4:V}(q:Q .none (H++[.inst 11 [(55,v1),(56,v2),(57,v3),(58,v4)]])):Wf sc (d+1) 73 [.ref H.length,v1,v2,v3,v4] (H++[.inst 11 []]) Q:=
 cF rfl rfl (pU rfl (pU rfl (pU rfl (pU rfl q))))
theorem ll'{v1 v2 v3:V}(q:Q .none (H++[.inst 12 [(18,v1),(20,v2),(39,v3)]])):Wf sc (d+1) 75 [.ref H.length,v1,v2,v3] (H++[.inst 12 []]) Q:=
 cF rfl rfl (pU rfl (pU rfl (pU rfl q)))
theorem lZ'(q:Q .none (P ++ .inst 13 (DO P.length (P.length+1) (P.length+2) (P.length+3))::kA 10 (.list []))):Wf sc (d+1) 77 [.ref P.length] (P++[.inst 13 []]) Q:=
 X8 rfl rfl (CG (P:=P) (T:=[]) rfl rfl (n:=1) rfl rfl rfl (CG (n:=2) rfl rfl rfl rfl rfl (CG (n:=3) rfl rfl rfl rfl rfl (CG (n:=4) rfl rfl rfl rfl rfl (CG (n:=5) rfl rfl rfl rfl rfl (CG (n:=6) rfl rfl rfl rfl rfl (CG (n:=7) rfl rfl rfl rfl rfl (kd' rfl rfl rfl (CG (n:=8) rfl rfl rfl rfl rfl (CG (n:=9) rfl rfl rfl rfl rfl (CG (n:=10) rfl rfl rfl rfl rfl (vm q))))))))))))
end
theorem nR'{e:E}{Q:PS}(h:wE G cl e I H λv h1=>Q (.ret v) I h1):wZ G cl (.ret e::lT) I H Q:=by rw[Gu,Ey];exact h
section
variable{P:Hp}{Q:PE}
noncomputable def si:Hp:=kA 10 (.list [])
noncomputable def imO:bY:=.inst 11 [(55,.str "h"),(56,.str "f"),(57,.int 0),(58,.int 5)]
def foO(n:O):bY:=.inst 12 [(18,.int 5),(20,DB 2),(39,.ref n)]
def S9:Hp:=si++[.list qM]++[.list qM]
def TA(n:O):Hp:=S9++[imO]++[.list [.ref (n+13)]]
def TB(n:O)(code:Y aI):Hp:=TA n++[pL [.aS]]++[pL (code++[.aS])]++[foO (n+16)]++[.list [.ref (n+17)]]
def mH(P:Hp)(code:Y aI):Hp:=P ++ .inst 13 (DO P.length (P.length+12) (P.length+14) (P.length+18))::TB P.length code
theorem lY'{o0 o2 o4:aG V}(hb:P[2]?=Z (pL code))(hz:code.length<100000)(q:Q (.ref P.length) (mH P code)):bQ (cx sc) (Cl sc (d+2)) (QE.drop 3) [o0,aB,o2,Z (.ref 2),o4] P λfl _ h1=>Q (gT fl) h1:=by apply ig;refine LK (ρ':=[o0,Z (.ref P.length),o2,Z (.ref 2),o4]) (H':=P ++ .inst 13 (DO P.length (P.length+1) (P.length+2) (P.length+3))::si) (λK q=>lZ' ⟨rfl,q⟩) ?_;refine LK (ρ':=[o0,Z (.ref P.length),o2,Z (.ref 2),o4]) (H':=P ++ .inst 13 (DO P.length (P.length+12) (P.length+2) (P.length+3))::S9) (λK q=>Kv (hN' eA (K0 (T:=S9) (v':=.ref (P.length+12)) (by rw[vM (P:=P),vM (P:=P)];rfl) (by rw[vM (P:=P)];exact GM rfl) rfl rfl q))) ?_;refine LK (ρ':=[o0,Z (.ref P.length),o2,Z (.ref 2),o4]) (H':=P ++ .inst 13 (DO P.length (P.length+12) (P.length+14) (P.length+3))::TA P.length) (λK q=>lw' ⟨rfl,K0 (T:=TA P.length) (v':=.ref (P.length+14)) (by rw[vM (P:=P),vM (P:=P),GM (P:=P) (n:=13) rfl];rfl) (by rw[vM (P:=P)];exact GM rfl) rfl rfl q⟩) ?_;refine LK (ρ':=[o0,Z (.ref P.length),o2,Z (.ref 2),o4]) (H':=mH P code) (λK q=>HK (xs:=code.map aI.v) (ys:=[aI.aS.v]) (lH ((gO (iN hb)).trans hb)) eA ?_ (ll' ⟨rfl,K0 (c:=13) (fs:=DO P.length (P.length+12) (P.length+14) (P.length+3)) (fs':=DO P.length (P.length+12) (P.length+14) (P.length+18)) (T:=TB P.length code) (v':=.ref (P.length+18)) ?_ ?_ rfl rfl q⟩)) ?_;rw[cJ];exact decide_eq_true (aL (zx hz) (by decide));rw[vM (P:=P),vM (P:=P),vM (P:=P),vM (P:=P),GM (P:=P) (n:=16) rfl,GM (P:=P) (n:=17) rfl,zT];rfl;rw[vM (P:=P),vM (P:=P),vM (P:=P)];exact GM rfl;exact nR' q
end
noncomputable def iE(n:O):Y O:=[0,12,14,18,4,5,6,7,8,9,10,13,17,16].map (n + ·)
theorem iC'{P:Hp}: iW (iE P.length) (dT ((code++[aI.aS]).map aI.v) []) (mH P code):=by
 refine⟨rfl,?_,λi j h=>?_⟩;exact List.pairwise_map.mpr (qt' (λh e=>h (PF e)) (by decide:List.Nodup [0,12,14,18,4,5,6,7,8,9,10,13,17,16]));obtain⟨k,hk,rfl⟩:=Ca.mp (fJ.symm.trans h);have e:[0,12,14,18,4,5,6,7,8,9,10,13,17,16].map (λk=>(bY.inst 13 (DO P.length (P.length+12) (P.length+14) (P.length+18))::TB P.length code)[k]?)=(dT ((code++[aI.aS]).map aI.v) []).map λo=>Z (iZ (fN (iE P.length) (mH P code).length) o):=by
  show _=((dT [] []).take 13).map (λo=>Z (iZ (fN (iE P.length) (mH P code).length) o))++[Z (iZ (fN (iE P.length) (mH P code).length) (.list ((code++[aI.aS]).map aI.v)))];rw[show iZ (fN (iE P.length) (mH P code).length) (.list ((code++[aI.aS]).map aI.v))=_ from Az (nW CD _)];rfl
 have e:(yj _ _)[i]?=(yj _ _)[i]?:=aW (λl=>l[i]?) e;rw[fJ,fJ,hk]at e;obtain⟨o,ho,e⟩:=Ca.mp e.symm;have e:(mH P code)[P.length+k]?=Z _:=Yg.trans e.symm;rw[e,ho];exact⟨iN e,rfl⟩
theorem do'(n:O):fQ (λb:O=>(if (if (n:J)<14 then (n:J) else 14)>3 then (if (n:J)<14 then (n:J) else 14) else 3)=(b:J)) (λb=>b<=14):=by
 by_cases h:(n:J)<14
 ·rw[aZ h]
  by_cases k:(n:J)>3;exact⟨n,aZ k,lO (eZ.mp h)⟩;exact⟨3,aR k,by decide⟩
 ·rw[aR h]
  exact⟨14,aZ (by decide),cE _⟩
section
variable{Q:PE}
theorem lQ'(hn:sq.length<=100000)(q:∀n H' body,WV body->iW (iE n) (dT (body.map aI.v) []) H'->Q (.ref n) H'):Wf sc (d+20) 94 [.ref 0] [.list (sq.map .int)] Q:=by
 obtain⟨b,hb,RI⟩:=do' (sq.map V.int).length;refine cF rfl rfl (iQ (ρ':=[Z (.ref 0),aB,Z (.ref 1),Z (.ref 2),Z (.int (0:O))]) (H':=g3 sq 0 b [.const 7,.set 3] []) (λK q=>?_) ?_)
 ·have q:K .next [Z (.ref 0),aB,Z (.ref 1),Z (.ref 2),Z (.int 0)] (.list (sq.map .int):: .list [.ref 0,.int 0,.int (if (if ((sq.map V.int).length:J)<14 then ((sq.map V.int).length:J) else 14)>3 then (if ((sq.map V.int).length:J)<14 then ((sq.map V.int).length:J) else 14) else 3)]::pL [.const 7,.set 3]::[]):=by rw[hb];exact q
  exact q
 have fz':Lu sc sq (d+19) 4:=by
  have:=bw (sc:=sc) (sq:=sq) 4 (d+3);rw[show 3*4+4+(d+3)=d+19 from nB 16 (d+3)]at this;exact this
 have ok:qX [(2,aE)]:=⟨by decide,by decide,rfl,by decide⟩;refine vC (λn I H=>Wn (λhh _ _ _=>I=[Z (.ref 0),aB,Z (.ref 1),Z (.ref 2),Z (hV hh)]) (λ_ a2 bL r'=>H=g3 sq a2 n ([.const 7,.set 3]++bL) r') (λhh _ bL _=>dR [(2,aE)] (Z 0) bL hh) (λhh _ bL _=>bL.length+hh.getD 0+16*n<=16*b) (λ_ a2 _ _=>a2+3*n<=3*b)) b ⟨Z 0,0,[],[],rfl,rfl,.nil,dH (nQ _),dH (nQ _)⟩ λn I H j go fL=>?_;obtain⟨hh,a2,bL,r',e1,e2,hs,hl,ha⟩:=j;rw[e1,e2];have Hf:=aL hl (yQ 16 RI);have Zu:=aL (aL (bU _ _) (bU _ _)) Hf;have xK:=aL (aL (dL _ _) (bU _ _)) Hf;have aS:bQ (cx sc) (Cl sc (d+19)) (QE.drop 2) [Z (.ref 0),aB,Z (.ref 1),Z (.ref 2),Z (hV hh)] (g3 sq a2 n ([.const 7,.set 3]++bL) r') λfl _ h1=>Q (gT fl) h1:=by
  have dE:([aI.const 7,.set 3]++bL).length=2+bL.length:=by rw[bA];rfl
  refine IY [(2,aE)] (h:=hh) (aD:=2) rfl (by decide) (aL xK (by decide)) (by rw[dE];exact cM (eR Zu 2) (by decide)) λs3 Ap vU=>?_;have q1:s3.length<=hh.getD 0+2:=by
   cases hh with
   | none=>exact aL (dH vU) (nD _)
   | some n=>exact aL (dH vU) (n4 rfl)
  refine lY' (d:=d+17) (code:=[.const 7,.set 3]++bL++s3) rfl ?_ (q _ _ _ ?_ iC')
  ·rw[bA,dE]
   exact cM (eN (eR Zu 2) (aL q1 (dP xK 2))) (by decide)
  ·refine⟨bL++s3,_,by rw[fB,fB,fB,fB],hs.dI Ap,Qd,?_⟩
   rw[bA];exact aL (eR q1 _) (aL (dP (aL (bU _ _) Hf) 2) (by decide))
 refine AW (λ_=>aS) λhc=>?_;have hc:(n:J)>0:=fY hc;cases hh with
 | none=>exact aS
 | some h2=>
  obtain⟨bd,rfl⟩:∃bd,n=bd+1:=⟨n-1,(jH (eZ.mp hc)).symm⟩;have hl:bL.length+h2+16*(bd+1)<=16*b:=hl;refine fz' a2 bd ([.const 7,.set 3]++bL) (r'++[pQ [(2,aE)]]) r'.length [(2,aE)] h2 _ eA ok (by decide) ?_ ?_ ?_;rw[bA];show 2+bL.length+_+_<=_;rw[gC 2,gC 2];exact aL (eR (aL hl (yQ 16 RI)) 2) (by decide);exact aL ha (aL (yQ 3 RI) (by decide))
  ·intro h' s2 r2 a3 Jh EZ vU J1 J2 EQ
   refine fL Jh _ _ (zj J2) ⟨h',a3,bL++s2,r2,rfl,by rw[fB],hs.dI EZ,?_,?_⟩;rw[bA];exact df hl vU;exact aL J1 ha
end
theorem fj{f:O}(fl:f+1=l)(e:d=f):l-1-d=0:=by rw[<-fl,e];exact qB f
theorem fm{f:O}(fl:f+1=l)(h:d<f):l-1-d=f-1-d+1:=by rw[<-fl];exact (TL h).symm.trans (aW (· + 1) ((JD f 1 d).trans (aW (f - ·) (nB 1 d))).symm)
theorem fq{f:O}(fl:f+1=l)(h:d<l):d<=f:=BN (G3 h fl.symm)
theorem Kb{l:Y α}(h:k+1<=l.length):k<=l.dropLast.length:=by rw[iR];exact G2 h
theorem IB{l:Y α}: l.dropLast.length<=l.length:=by rw[iR];exact fW _ _
theorem ft{b:J}{f:O}(h:b<=a+1)(k:a+f<=(n:J)+3):b+f<=((n+1:O):J)+3:=by have e:=BK k 1;rw[VL (n:J)]at e;exact gB (BK h f) (by rw[VL];exact e)
theorem fz(h:a<=(n:J)+3):a<=((n+1:O):J)+3:=gB h (BK (fV.mpr (nC n)) 3)
theorem fy{f:O}(k:a+f<=(n:J)+3):a+((f+1:O):J)<=((n+1:O):J)+3:=by have e:=BK k 1;rw[BJ,VL]at e;exact e
theorem n25{b:J}{f:O}(h:b<=a+2)(k:a+((f+1:O):J)<=(n:J)+3):b+f<=((n+1:O):J)+3:=ft (a:=a+1) (gB h (Dq (BJ a 1 1).symm)) (by
 rw[pX,LO (f:J),<-BJ]at k;exact k)
theorem TM: n+(k+2)=n+1+k+1:=aW (· + 1) (Nat.succ_add n k).symm
theorem Nl{m:O}(h:n+1+k+1<=m):n<=m:=aL (aL (nC n) (bU _ _)) (kT h)
theorem TN{P:Prop}{k:J}(h:0<=k)(p:P):k=0/\P\/0<k:=(Int.lt_or_eq_of_le h).elim .inr λe=>.inl ⟨e.symm,p⟩
theorem n29: n+(k+j+3)=n+1+k+1+j+1:=aW (· + 1) (by
 rw[hS n 1 k,hS _ 1 j,hS _ 1 j,gC n k j];rfl)
theorem n30{s f:O}(h:r+l+s+f<=k):r+1+l+f+s<=k+1:=by rw[hS r 1,hS _ 1 f,hS _ 1 s,hS _ f s];exact gP h
theorem n32{f s b:O}(h:r+l+f+s<=k)(hb:b<=s)(hp:p<=2):r+l+(b+p)+f<=k+2:=by rw[hS,<-gC];exact eN (aL (eR hb _) h) hp
theorem n33{s f c:O}(h:c<=k):r+l+c+f<=r+l+s+f+k:=by rw[hS];exact eN (dP (bU _ _) f) h
theorem X6{b:J}(h:aQ.pl a= .pl b):a=b:=aW aQ.n h
abbrev Sv:=J->J
variable{s:Sv}
abbrev Tl:=Y (J×J)
abbrev As:=Sv->Tl->O->Prop
abbrev tG:=aG (J×J)
noncomputable def up(s:Sv)(a v:J):Sv:=λi=>if i=a then v else s i
theorem Dh: up s a v a=v:=aZ rfl
theorem AJ(h:i≠a):up s a v i=s i:=aR h
noncomputable def dQ:J:=4294967296
noncomputable def Fc(b:aC):J:=if b then 1 else 0
def kS(op x y:J):J:=
 if op=106 then (x+y).fmod dQ else if op=107 then (x-y).fmod dQ else if op=108 then (x*y).fmod dQ
 else if op=115 then CP x y else if op=118 then x.fdiv (2^(y.fmod 32).toNat) else if op=70 then Fc (decide (x=y)) else Fc (decide (x<y))
def uL(x:J):J:=Fc (decide (x=0))
def bW(m x:J):Prop:=0<=x/\x<m
theorem bW.cV{x:J}(h:bW m x)(hm:m<=m'):bW m' x:=⟨h.1,mZ h.2 hm⟩
set_option genCtorIdx false in
set_option genSizeOf false in
inductive RK where
 | DP(a x:J)|const (a n:J)|nY (a:J)|pP (l:J)|oZ (b:aC)(l x:J)|hO (a:J)(ls:Y J)|call (b:J)|ret|Ew
 | jQ(a x:J)|dX (op a x y:J)|pW (op a x n:J)|br (op:J)(b:aC)(l x y:J)|oT (op:J)(b:aC)(l x n:J)
namespace RK
noncomputable def row:RK->dF
 | DP a x=>⟨256,a,.i x,0⟩
 | const a n=>⟨257,a,.i n,0⟩
 | nY a=>⟨258,a,.i 0,0⟩
 | pP l=>⟨259,l,.i 0,0⟩
 | oZ b l x=>⟨if b then 260 else 261,l,.i x,0⟩
 | hO a ls=>⟨262,a,.t ls,0⟩
 | call b=>⟨263,0,.i b,0⟩
 | ret=>⟨267,4,.i 2,0⟩
 | Ew=>⟨0,0,.i 0,0⟩
 | jQ a x=>⟨69,a,.i x,0⟩
 | dX op a x y=>⟨op,a,.i x,y⟩
 | pW op a x n=>⟨16384+op,a,.i x,n⟩
 | br op b l x y=>⟨op+if b then 4096 else 8192,l,.i x,y⟩
 | oT op b l x n=>⟨16384+op-16384+if b then 20480 else 24576,l,.i x,n⟩
def lo(a x:J):Prop:=x<4\/a<4\/a<=x
def ok(m:J):RK->Prop
 | DP a x=>bW m a/\bW m x
 | const a n=>bW m a/\bW dQ n
 | nY a=>bW m a/\bW m (a+1)/\bW m (a+2)
 | pP _=>True
 | oZ _ _ x=>bW m x
 | hO a ls=>bW m a/\ls.length<1000/\ls≠[]
 | call b=>bW m b/\bW m (b+1)
 | ret=>bW m 4/\bW m 5
 | Ew=>True
 | jQ a x=>bW m a/\bW m x/\lo a x
 | dX op a x y=>op∈jL/\bW m a/\(bW m x/\lo a x)/\bW m y/\lo a y
 | pW op a x n=>op∈jL/\bW m a/\(bW m x/\lo a x)/\bW dQ n
 | br op _ _ x y=>(op=70\/op=73)/\bW m x/\bW m y
 | oT op _ _ x n=>(op=70\/op=73)/\bW m x/\bW dQ n
theorem ok.cV{q:RK}(h:q.ok m)(hm:m<=m'):q.ok m':=by
 cases q with
 | DP|call|ret=>exact⟨h.1.cV hm,h.2.cV hm⟩
 | jQ=>exact⟨h.1.cV hm,h.2.1.cV hm,h.2.2⟩
 | const=>exact⟨h.1.cV hm,h.2⟩
 | nY=>exact⟨h.1.cV hm,h.2.1.cV hm,h.2.2.cV hm⟩
 | pP|Ew=>exact h
 | oZ=>exact bW.cV h hm
 | hO=>exact⟨h.1.cV hm,h.2⟩
 | dX=>exact⟨h.1,h.2.1.cV hm,⟨h.2.2.1.1.cV hm,h.2.2.1.2⟩,h.2.2.2.1.cV hm,h.2.2.2.2⟩
 | pW=>exact⟨h.1,h.2.1.cV hm,⟨h.2.2.1.1.cV hm,h.2.2.1.2⟩,h.2.2.2⟩
 | br=>exact⟨h.1,h.2.1.cV hm,h.2.2.cV hm⟩
 | oT=>exact⟨h.1,h.2.1.cV hm,h.2.2⟩
noncomputable def tg(a:J)(ls:Y J):J:=ls.getD (if a<(ls.length:J)-1 then a.toNat else ls.length-1) 0
def wp(H:tG->Tl->Prop)(N:As)(eV:J->As)(s:Sv)(t:Tl)(k:O):RK->Prop
 | DP a x=>N (up s a (s x)) t k
 | const a n=>N (up s a n) t k
 | nY a=>N (up s a (if s (a+2)≠0 then s a else s (a+1))) t k
 | pP l=>eV l s t k
 | oZ b l x=>cW (decide (s x≠0)==b) (eV l s t k) (N s t k)
 | hO a ls=>eV (tg (s a) ls) s t k
 | call b=>N (up (up s b (s (b+1))) (b+1) ((s b+1).fmod dQ)) (t++[(s b,s (b+1))]) k
 | ret=>H (Z (s 4,s 5)) t
 | Ew=>H aB t
 | jQ a x=>N (up s a (uL (s x))) t k
 | dX op a x y=>N (up s a (kS op (s x) (s y))) t k
 | pW op a x n=>N (up s a (kS op (s x) n)) t k
 | br op b l x y=>cW (decide (kS op (s x) (s y)≠0)==b) (eV l s t k) (N s t k)
 | oT op b l x n=>cW (decide (kS op (s x) n≠0)==b) (eV l s t k) (N s t k)
theorem B2{p q p' q':Prop}(h:cW b p q)(f:p->p')(g:q->q'):cW b p' q':=by
 cases b with
 | true=>exact f h
 | false=>exact g h
theorem Oq{H:tG->Tl->Prop}{N N':As}{eV J':J->As}{t:Tl}{q:RK}(h:q.wp H N eV s t k)(hN:∀s t k,N s t k->N' s t k)(hJ:∀l s t k,eV l s t k->J' l s t k):q.wp H N' J' s t k:=by
 cases q with
 | pP|hO=>exact hJ _ _ _ _ h
 | ret|Ew=>exact h
 | oZ|br|oT=>exact B2 h (hJ _ _ _ _) (hN _ _ _)
 | _=>exact hN _ _ _ h
def DI(p:J->Prop):RK->Prop
 | pP l=>p l
 | oZ _ l _=>p l
 | hO _ ls=>∀l∈ls,p l
 | br _ _ l _ _=>p l
 | oT _ _ l _ _=>p l
 | _=>True
theorem Sq{p p':J->Prop}(h:∀l,p l->p' l){q:RK}(b:q.DI p):q.DI p':=by
 cases q with
 | pP|oZ|br|oT=>exact h _ b
 | hO=>exact λl hl=>h l (b l hl)
 | _=>exact trivial
end RK
def Lp(aH:Y J)(P:J->Prop)(l:J):Prop:=0<=l/\(P l\/ ∃q:O,aH[l.toNat]?=Z (q:J))
inductive Jm(aH:Y J)(lk:Y As)(P:J->Prop)(j:O)(l:J)(s:Sv)(t:Tl)(k:O):Prop
 | uN(h0:0<=l)(K:As)(hl:lk[l.toNat]?=Z K)(hp:P l\/ ∃q:O,aH[l.toNat]?=Z (q:J)/\j<q)(h:K s t k)
 | tI(h0:0<=l)(K:As)(hl:lk[l.toNat]?=Z K)(q:O)(hp:aH[l.toNat]?=Z (q:J))(hk:k<2)(h:K s t (k+1))
structure V2 where
 H:tG->Tl->Prop
 bK:As
structure Rz(V:V2)(aP:Y dF)(aH:Y J)(bV aF:J)(ks lk:Y As)(W:As)(P:J->Prop):Prop where
 len:ks.length=aP.length
 pS:lk.length=aH.length
 f0:0<=bV
 f1:bV<=aP.length
 row:∀(j:O) r K,aP[j]?=Z r->ks[j]?=Z K->JX (λq:RK=>r=q.row) (λq=>q.ok (4+aF)) (λq=>∀s t k,K s t k->q.wp V.H (ks[j+1]?.getD W) (Jm aH lk P j) s t k) (λq=>q.DI (Lp aH P))
 cT:∀(l:O) p K,aH[l]?=Z p->lk[l]?=Z K->p= -1\/rA (λq:O=>p=q) (λ_=>p<=bV) (λq=>∀s t k,K s t k->(ks[q]?.getD W) s t k)
 st:∀s t k,V.bK s t k->(ks[0]?.getD W) s t k
section
variable{V:V2}{bV aF:J}{ks lk:Y As}{W W' K:As}{P P':J->Prop}{q:RK}
theorem Q1(h:∀s t k,W s t k->W' s t k)(j:O):∀s t k,(ks[j]?.getD W) s t k->(ks[j]?.getD W') s t k:=by
 cases ks[j]? with
 | none=>exact h
 | some K=>exact λ_ _ _ h=>h
theorem Rz.lN(x:Rz V aP aH bV aF ks lk W P)(h:∀s t k,W s t k->W' s t k):Rz V aP aH bV aF ks lk W' P:=
 ⟨x.len,x.pS,x.f0,x.f1,λj r K hr hK=>by
  obtain⟨q,e,o,w,b⟩:=x.row j r K hr hK;exact⟨q,e,o,λs t k hs=>RK.Oq (w s t k hs) (Q1 h _) λ_ _ _ _ z=>z,b⟩,λl p K hp hk=>(x.cT l p K hp hk).imp id λ⟨q,h1,h2,h3⟩=>⟨q,h1,h2,λs t k z=>Q1 h q s t k (h3 s t k z)⟩,λs t k z=>Q1 h 0 s t k (x.st s t k z)⟩
theorem Rz.TJ{ec:J}(x:Rz V aP aH bV aF ks lk W P)(h:aF<=ec):Rz V aP aH bV ec ks lk W P:=
 ⟨x.len,x.pS,x.f0,x.f1,λj r K hr hK=>by
  obtain⟨q,e,o,w,b⟩:=x.row j r K hr hK;exact⟨q,e,o.cV (CR h 4),w,b⟩,x.cT,x.st⟩
theorem Jm.imp{Sj:Y J}{fO:Y As}(hP:∀(l:J),0<=l->(P l\/ ∃q:O,aH[l.toNat]?=Z (q:J)/\j<q)->P' l\/ ∃q:O,Sj[l.toNat]?=Z (q:J)/\j<q)(hB:∀(l q:O),aH[l]?=Z (q:J)->∃q':O,Sj[l]?=Z (q':J))(hL:∀(l:O) K,lk[l]?=Z K->fO[l]?=Z K){l:J}{s:Sv}{t:Tl}{k:O}(x:Jm aH lk P j l s t k):Jm Sj fO P' j l s t k:=by
 cases x with
 | uN h0 K hl hp h=>exact .uN h0 K (hL _ _ hl) (hP l h0 hp) h
 | tI h0 K hl q hp hk h=>exact (hB _ _ hp).elim λq' hq=>.tI h0 K (hL _ _ hl) q' hq hk h
theorem Rz.dJ(x:Rz V aP aH bV aF ks lk W P)(h:∀l,P l->P' l):Rz V aP aH bV aF ks lk W P':=
 ⟨x.len,x.pS,x.f0,x.f1,λj r K hr hK=>by
  obtain⟨q,e,o,w,b⟩:=x.row j r K hr hK;exact⟨q,e,o,λs t k hs=>RK.Oq (w s t k hs) (λ_ _ _ z=>z) λ_ _ _ _ z=>z.imp (λl _=>JE (h l)) (λ_ q hq=>⟨q,hq⟩) λ_ _ z=>z,RK.Sq (λl=>vp (JE (h l))) b⟩,x.cT,x.st⟩
theorem Rz.cH(x:Rz V aP aH bV aF ks lk W P)(o:q.ok (4+aF))(w:∀s t k,W s t k->q.wp V.H W' (Jm aH lk P aP.length) s t k)(b:q.DI (Lp aH P)):Rz V (aP++[q.row]) aH bV aF (ks++[W]) lk W' P:=by
 have hks:∀j,j<aP.length->(ks++[W])[j+1]?.getD W'=ks[j+1]?.getD W:=λj hj=>by
  rcases PM (zx (x.len.symm▸hj:j<ks.length)) with h|h
  rw[gO h,cS h];rfl;rw[show j+1=ks.length from h,kZ,lF (cE _)];rfl
 have h0:∀j s t k,j<=aP.length->(ks[j]?.getD W) s t k->((ks++[W])[j]?.getD W') s t k:=λj s t k hj=>by
  rcases PM (x.len.symm▸hj:j<=ks.length) with h|h
  rw[gO h,cS h];exact id;rw[h,kZ,lF (cE _)];exact id
 refine⟨by rw[bA,bA,x.len];rfl,x.pS,x.f0,gB x.f1 (fV.mpr (by rw[bA];exact bU _ _)),λj r K hr hK=>?_,λl p K hp hk=>(x.cT l p K hp hk).imp id λ⟨q,h1,h2,h3⟩=>⟨q,h1,h2,λs t k z=>h0 q s t k (fV.mp (h1▸gB h2 x.f1)) (h3 s t k z)⟩,λs t k z=>h0 0 s t k (nD _) (x.st s t k z)⟩;by_cases hj:j<aP.length
 ·rw[gO hj]at hr
  rw[gO (x.len.symm▸hj)]at hK;rw[hks j hj];exact x.row j r K hr hK
 ·have Rd:j=aP.length:=BM (BN (by have:=(iT.mp hr).1;rwa [bA]at this)) (kU.mp hj)
  rw[Rd,kZ]at hr;rw[Rd,<-x.len,kZ]at hK;rw[<-aT hr,<-aT hK,Rd,lF (by rw[bA,x.len];exact cE _)];exact⟨q,rfl,o,w,b⟩
theorem Rz.drop{r:dF}(x:Rz V aP aH bV aF ks lk W P)(hr:aP.getLast? = Z r)(hf:bV<aP.length):ED (λ(_:As) (q:RK)=>r=q.row) (λ_ q=>q.ok (4+aF)) (λK q=>∀s t k,K s t k->q.wp V.H W (Jm aH lk P (aP.length-1)) s t k) (λK _=>Rz V aP.dropLast aH bV aF ks.dropLast lk K P):=by
 have lZ:0<aP.length:=eZ.mp (qV x.f0 hf);have vV:aP[aP.length-1]?=Z r:=by rw[<-CU];exact hr
 have Hc:aP.length-1<ks.length:=x.len.symm▸CX lZ CW;have hk:ks[aP.length-1]?=Z ks[aP.length-1]:=cS Hc;obtain⟨q,e,o,w,_⟩:=x.row _ r _ vV hk;have e1:aP.length-1+1=ks.length:=(jH lZ).trans x.len.symm;rw[e1,lF (cE _)]at w;generalize ks[aP.length-1]=K at *;have Rr:∀j,j<ks.length->ks.dropLast[j]?.getD K=ks[j]?.getD W:=λj hj=>by
  rw[Gx];by_cases h:j<ks.length-1;rw[aZ h,cS hj];rfl;rw[aR h,show j=aP.length-1 from BM (LZ (x.len▸hj)) (x.len▸kU.mp h),hk];rfl
 refine⟨K,q,e,o,w,by rw[iR,iR,x.len],x.pS,x.f0,by rw[iR,yJ lZ];exact Int.le_sub_one_of_lt hf,λj r' K' xN Mr=>?_,λl p K' hp Hc=>?_,λs t k z=>?_⟩
 ·have hj:j<aP.length-1:=by have:=(iT.mp xN).1;rwa [iR]at this
  rw[Gx,aZ hj]at xN;rw[Gx,aZ (x.len.symm▸hj)]at Mr;rw[Rr (j+1) (x.len.symm▸Nat.add_lt_of_lt_sub hj)];exact x.row j r' K' xN Mr
 ·refine (x.cT l p K' hp Hc).imp id λ⟨q,h1,h2,h3⟩=>⟨q,h1,h2,?_⟩
  rw[Rr q (x.len.symm▸eZ.mp (qV (h1▸h2) hf))];exact h3
 ·rw[Rr 0 (x.len.symm▸lZ)]
  exact x.st s t k z
theorem Rz.cY(x:Rz V aP aH bV aF ks lk W P)(K:As):Rz V aP (aH++[-1]) bV aF ks (lk++[K]) W P:=by
 have dI:∀{α:Type} {l:Y α} {i:O} {v w:α},l[i]?=Z v->(l++[w])[i]?=Z v:=λh=>by rw[gO (iT.mp h).1];exact h
 refine⟨x.len,by rw[bA,bA,x.pS];rfl,x.f0,x.f1,λj r K' hr hK=>?_,λl p K' hp hk=>?_,x.st⟩
 ·obtain⟨q,e,o,w,b⟩:=x.row j r K' hr hK
  exact⟨q,e,o,λs t k hs=>RK.Oq (w s t k hs) (λ_ _ _ z=>z) λ_ _ _ _ z=>z.imp (λl _=>d6 λ⟨q,a,b⟩=>⟨q,dI a,b⟩) (λ_ q hq=>⟨q,dI hq⟩) λ_ _ z=>dI z,RK.Sq (λl=>vp (d6 λ⟨q,a⟩=>⟨q,dI a⟩)) b⟩
 ·by_cases h:l<aH.length
  ·rw[gO h]at hp
   rw[gO (x.pS.symm▸h)]at hk;exact x.cT l p K' hp hk
  ·have e:l=aH.length:=BM (BN (by have:=(iT.mp hp).1;rwa [bA]at this)) (kU.mp h)
   rw[e,kZ]at hp;exact .inl (aT hp).symm
theorem Rz.fS(x:Rz V aP aH bV aF ks lk W P)(hl:lk[l]?=Z K)(hK:∀s t k,K s t k->W s t k)(hP:∀i,P i->P' i\/i=l):Rz V aP (aH.set l aP.length) aP.length aF ks lk W P':=by
 have Bt:l<aH.length:=x.pS▸(iT.mp hl).1;refine⟨x.len,by rw[mI,x.pS],eQ _,mY _,λj r K' hr Mr=>?_,λi p K' hp hk=>?_,x.st⟩
 ·obtain⟨q,e,o,w,b⟩:=x.row j r K' hr Mr
  have hj:=(iT.mp hr).1;refine⟨q,e,o,λs t k hs=>RK.Oq (w s t k hs) (λ_ _ _ z=>z) λi _ _ _ z=>z.imp (λi i0 hp=>?_) (λi q hq=>?_) λ_ _ z=>z,RK.Sq (λi hi=>⟨hi.1,?_⟩) b⟩
  ·by_cases e:l=i.toNat
   ·exact .inr ⟨aP.length,e▸jZ Bt,hj⟩
   ·rcases hp with h|⟨q,a,b⟩
    exact (hP i h).imp id λh=>absurd (by rw[h];rfl) e;exact .inr ⟨q,by rw[kL e];exact a,b⟩
  ·by_cases e:l=i
   exact⟨aP.length,e▸jZ Bt⟩;exact⟨q,by rw[kL e];exact hq⟩
  ·by_cases e:l=i.toNat
   ·exact .inr ⟨aP.length,e▸jZ Bt⟩
   ·rcases hi.2 with h|⟨q,a⟩
    exact (hP i h).imp id λh=>absurd (by rw[h];rfl) e;exact .inr ⟨q,by rw[kL e];exact a⟩
 ·by_cases e:l=i
  ·rw[<-e,jZ Bt]at hp
   rw[<-e,hl]at hk;refine .inr ⟨aP.length,(aT hp).symm,Dq (aT hp).symm,λs t k z=>?_⟩;rw[<-x.len,lF (cE _)];exact hK s t k (aT hk▸z)
  ·rw[kL e]at hp
   exact (x.cT i p K' hp hk).imp id λ⟨q,h1,h2,h3⟩=>⟨q,h1,gB h2 x.f1,h3⟩
end
structure jJ(x y:X):Prop where
 aH:y.aH=x.aH
 bV:y.bV=x.bV
 aA:y.aA=x.aA
 aF:y.aF=x.aF
 bH:y.bH=x.bH
 cL:y.cL=x.cL
theorem jJ.refl(x:X):jJ x x:=⟨rfl,rfl,rfl,rfl,rfl,rfl⟩
theorem jJ.trans(p:jJ x y)(q:jJ y z):jJ x z:=
 ⟨q.aH.trans p.aH,q.bV.trans p.bV,q.aA.trans p.aA,q.aF.trans p.aF,q.bH.trans p.bH,q.cL.trans p.cL⟩
abbrev BC:=Y J->Y J->Tl->O->Prop
variable{B C:BC}
noncomputable def Ev(s:Sv):aQ->J
 | .num n=>n
 | .pl a=>s a
noncomputable def kR(s:Sv):Y J:=[s 0,s 1,s 2,s 3]
def Mt(st:Y aQ)(C:BC):As:=λs t k=>C (st.map (Ev s)) (kR s) t k
def Ea(h:O):aQ->Prop
 | .num n=>bW dQ n
 | .pl a=>bW 4 a\/a=4+h
def Es(st:Y aQ):Prop:=∀(h:O) e,st[h]?=Z e->Ea h e
def Rq(V:V2)(x:X)(lk:Y As)(W:As)(P:J->Prop):Prop:=∃ks,Rz V x.aP x.aH x.bV x.aF ks lk W P
theorem pO': up s a (s a)=s:=funext λi=>by by_cases h:i=a;rw[h];exact Dh;exact AJ h
theorem Hq(hi:i<4):i≠4+h:=λe=>oD.mpr (wO (eQ h)) (e▸hi)
theorem Ze{i:O}(e:(4:J)+h=4+i):h=i:=pY (Int.add_left_cancel e)
theorem vX(hm:(h:J)<m):bW (4+m) (4+h):=⟨gB (by decide) (wO (eQ h)),O5 hm 4⟩
theorem Su(h:bW 4 a)(hm:0<=m):bW (4+m) a:=h.cV (wO hm)
theorem MV{i:O}(he:Ea i e)(hi:i≠h):Ev (up s (4+h) v) e=Ev s e:=by
 cases e with
 | num=>rfl
 | pl a=>exact he.elim (λq=>AJ (Hq q.2)) λq=>AJ λe=>hi (Ze (q.symm.trans e))
theorem IQ: kR (up s (4+h) v)=kR s:=by unfold kR;rw[AJ (Hq (by decide)),AJ (Hq (by decide)),AJ (Hq (by decide)),AJ (Hq (by decide))]
theorem nl'{l:Y α}{v:α}(e:l[h]?=Z v):l.set h v=l:=by refine yM λi=>?_;by_cases q:h=i;rw[<-q,jZ (iT.mp e).1,e];rw[kL q]
theorem kF{l:Y α}{i:O}{v:α}(h:l[i]?=Z v):i<l.length:=(iT.mp h).1
theorem iu'(k:Es st)(hl:h<st.length):(st.set h (.pl (4+h))).map (Ev (up s (4+h) v))=(st.map (Ev s)).set h v:=by
 refine yM λi=>?_;rw[fJ];by_cases e:h=i
 ·rw[<-e,jZ hl,jZ (by rw[cJ];exact hl)]
  exact aW Z Dh
 ·rw[kL e,kL e,fJ]
  cases he:st[i]? with
  | none=>rfl
  | some x=>exact aW Z (MV (k i x he) (FE e))
theorem Es.set(k:Es st):Es (st.set h (.pl (4+h))):=λi e he=>by
 by_cases hi:h=i
 ·have cQ:=kF he
  rw[mI]at cQ;rw[<-hi]at he cQ ⊢;rw[jZ cQ]at he;exact aT he▸ .inr rfl
 ·rw[kL hi]at he
  exact k i e he
theorem Es.pop(k:Es st):Es st.dropLast:=λh e he=>k h e (by
 rw[Gx]at he;by_cases hh:h<st.length-1;rwa [aZ hh]at he
 ·rw[aR hh]at he;exact cI he)
theorem Es.push(k:Es st)(he:Ea st.length e):Es (st++[e]):=λh x hx=>by
 by_cases hl:h<st.length;rw[gO hl]at hx;exact k h x hx
 ·have e1:h=st.length:=BM (BN (by have:=kF hx;rwa [bA]at this)) (kU.mp hl)
  rw[e1,kZ]at hx;rw[e1,<-aT hx];exact he
theorem Es.cD(k:Es x.R)(h:1<=x.R.length):Ea (x.R.length-1) x.cD:=k _ _ (by rw[<-CU];exact yC h)
def Eo(m:J):aQ->Prop
 | .num n=>bW dQ n
 | .pl a=>bW (4+m) a
theorem Ea.o(k:Ea h e)(hm:(h:J)<m):Eo m e:=by
 cases e with
 | num n=>exact k
 | pl a=>exact k.elim (λq=>Su q (vE (qV (eQ h) hm))) λq=>q▸vX hm
section
variable{b:O}
variable{V:V2}{lk:Y As}{W W':As}{P P':J->Prop}
theorem Rq.lN(x:Rq V c lk W P)(h:∀s t k,W s t k->W' s t k):Rq V c lk W' P:=x.imp λ_ k=>k.lN h
theorem Rq.dJ(x:Rq V c lk W P)(h:∀l,P l->P' l):Rq V c lk W P':=x.imp λ_ k=>k.dJ h
theorem Rq.cH{b:Arg}{d:J}(x:Rq V c lk W P)(q:RK)(e:q.row=⟨op,a,b,d⟩)(o:q.ok (4+c.aF))(lb:q.DI (Lp c.aH P))(w:∀s t k,W s t k->q.wp V.H W' (Jm c.aH lk P c.aP.length) s t k):Rq V (c.cH op a b d) lk W' P:=
 x.elim λks z=>⟨ks++[W],by show Rz V (c.aP++[⟨op,a,b,d⟩]) _ _ _ _ _ _ _;rw[<-e];exact z.cH o w lb⟩
theorem Rq.cY(x:Rq V c lk W P)(K:As):Rq V c.cY (lk++[K]) W P:=x.imp λ_ k=>k.cY K
theorem Rq.dS(x:Rq V c lk W P)(hl:lk[l]?=Z W)(hP:∀i,P i->P' i\/i=l):Rq V (c.dS l) lk W P':=x.imp λ_ k=>k.fS hl (λ_ _ _ h=>h) hP
theorem IA: c.aF<=(c.push e).aF:=by
 show c.aF<=if (c.R.length:J)+1>c.aF then (c.R.length:J)+1 else c.aF
 by_cases h:(c.R.length:J)+1>c.aF;rw[aZ h];exact vE h;rw[aR h];exact mY _
theorem Rq.push(x:Rq V c lk W P):Rq V (c.push e) lk W P:=x.imp λ_ k=>k.TJ IA
theorem Kp: ((c.push e).R.length:J)<=(c.push e).aF:=by
 show ((c.R++[e]).length:J)<=if (c.R.length:J)+1>c.aF then (c.R.length:J)+1 else c.aF
 rw[bA];by_cases h:(c.R.length:J)+1>c.aF;rw[aZ h];exact mY _;rw[aR h];exact oD.mp h
theorem jy(h:(c.R.length:J)<=c.aF):(c.push e).aF<=c.aF+1:=by show (if (c.R.length:J)+1>c.aF then (c.R.length:J)+1 else c.aF)<=_;by_cases g:(c.R.length:J)+1>c.aF;rw[aZ g];exact BK h 1;rw[aR g];exact CB
theorem OE{s:J}: jJ c (c.fS s e):=by
 cases e with
 | num n=>exact⟨rfl,rfl,rfl,rfl,rfl,rfl⟩
 | pl t=>
  show jJ c (if t=s then c else c.cH 256 s (.i t) 0);by_cases h:t=s;rw[aZ h];exact .refl _;rw[aR h];exact⟨rfl,rfl,rfl,rfl,rfl,rfl⟩
theorem Rq.OD(x:Rq V c lk W P)(he:Eo c.aF e)(ha:bW (4+c.aF) a)(w:∀s t k,W s t k->W' (up s a (Ev s e)) t k):Rq V (c.fS a e) lk W' P:=by
 cases e with
 | num n=>exact x.cH (.const a n) rfl ⟨ha,he⟩ trivial w
 | pl b=>
  show Rq V (if b=a then c else c.cH 256 a (.i b) 0) lk W' P;by_cases h:b=a
  ·rw[aZ h]
   exact x.lN λs t k z=>pO' (s:=s) (a:=a)▸h▸w s t k z
  ·rw[aR h]
   exact x.cH (.DP a b) rfl ⟨ha,he⟩ trivial w
theorem UL(he:c.R[h]?=Z e):(c.iK h).R=c.R.set h (.pl (4+h))/\jJ c (c.iK h):=by unfold X.iK;rw[he];have:=OE (c:=c) (s:=4+h) (e:=e);exact⟨by show (c.fS _ e).R.set _ _=_;rw[X.Kq],this.aH,this.bV,this.aA,this.aF,this.bH,this.cL⟩
def qY(st:Y aQ)(cK:Sv->BC):As:=λs t k=>cK s (st.map (Ev s)) (kR s) t k
section
variable{cK:Sv->BC}
theorem pr(hD:∀s (h:O) v,h<c.R.length->cK (up s (4+h) v)=cK s)(x:Rq V c lk (qY st cK) P)(k:Es st)(he:c.R[h]?=Z e)(hs:st[h]?=Z e)(hm:(h:J)<c.aF):Rq V (c.iK h) lk (qY (st.set h (.pl (4+h))) cK) P:=by unfold X.iK;rw[he];refine x.OD ((k h _ hs).o hm) (vX hm) λs t n z=>?_;unfold qY at z ⊢;rw[hD _ _ _ (kF he),iu' k (kF hs),IQ];rwa [nl' (by rw[fJ,hs];rfl)]
theorem ns'(hD:∀s (h:O) v,h<c.R.length->cK (up s (4+h) v)=cK s)(x:Rq V c lk (qY c.R cK) P)(k:Es c.R)(hl:h<c.R.length)(hm:(c.R.length:J)<=c.aF):A4 (Rq V (c.iK h) lk (qY (c.iK h).R cK) P) (Es (c.iK h).R) ((c.iK h).R=c.R.set h (.pl (4+h))) (jJ c (c.iK h)):=by have he:=cS hl;obtain⟨s1,s2⟩:=UL he;exact⟨s1▸pr hD x k he he (mZ (eZ.mpr hl) hm),s1▸k.set,s1,s2⟩
end
theorem np'(x:Rq V c lk (Mt st C) P)(k:Es st)(he:c.R[h]?=Z e)(hs:st[h]?=Z e)(hm:(h:J)<c.aF):Rq V (c.iK h) lk (Mt (st.set h (.pl (4+h))) C) P:=pr (cK:=λ_=>C) (λ_ _ _ _=>rfl) x k he hs hm
def Ls(b:O)(st:Y aQ):Prop:=∀(i:O) e,b<=i->st[i]?=Z e->e= .pl (4+i)
def FU(b:O)(st CL:Y aQ):Prop:=∀i:O,i<b->CL[i]?=st[i]?
section
variable{cK:Sv->BC}
theorem nt'(hD:∀s (h:O) v,h<c.R.length->cK (up s (4+h) v)=cK s)(x:Rq V c lk (qY c.R cK) P)(k:Es c.R)(hm:(c.R.length:J)<=c.aF):∀n,b+n<=c.R.length->A5 (Rq V (c.sS b n) lk (qY (c.sS b n).R cK) P) (Es (c.sS b n).R) (∀(i:O) e,b<=i->i<b+n->(c.sS b n).R[i]?=Z e->e= .pl (4+i)) (FU b c.R (c.sS b n).R) (jJ c (c.sS b n)):=by
 intro n;induction n with
 | zero=>exact λ_=>⟨x,k,λi e h1 h2=>absurd h2 (kU.mpr h1),λ_ _=>rfl,.refl _⟩
 | succ n ih=>
  intro hn;obtain⟨h1,h2,h3,h4,h5⟩:=ih (kT hn);obtain⟨g1,g2,g3,g4⟩:=ns' (cK:=cK) (h:=b+n) (λs h v q=>hD s h v (X.Gk (x:=c)▸q)) h1 h2 (X.Gk.symm▸hn) (by rw[X.Gk,h5.aF];exact hm);refine⟨g1,g2,λi e a1 a2 he=>?_,λi hi=>?_,h5.trans g4⟩
  ·have uQ:((c.sS b n).iK (b+n)).R[i]?=Z e:=he
   rw[g3]at uQ;by_cases hi:b+n=i
   ·rw[<-hi,jZ (X.Gk.symm▸hn)]at uQ
    rw[<-hi];exact (aT uQ).symm
   ·rw[kL hi]at uQ
    exact h3 i e a1 (La (BN a2) (FE hi)) uQ
  ·show ((c.sS b n).iK (b+n)).R[i]?=_
   rw[g3,kL (rU (eP hi (bU _ _)))];exact h4 i hi
theorem po(hD:∀s (h:O) v,h<c.R.length->cK (up s (4+h) v)=cK s)(x:Rq V c lk (qY c.R cK) P)(k:Es c.R)(hm:(c.R.length:J)<=c.aF)(hl:aD<=c.R.length):A5 (Rq V (c.dB aD) lk (qY (c.dB aD).R cK) P) (Es (c.dB aD).R) (Ls (c.R.length-aD) (c.dB aD).R) (FU (c.R.length-aD) c.R (c.dB aD).R) (jJ c (c.dB aD)):=by obtain⟨h1,h2,h3,h4,h5⟩:=nt' (cK:=cK) (b:=c.R.length-aD) hD x k hm aD (dH (jH hl));refine⟨h1,h2,λi e hi he=>h3 i e hi ?_ he,h4,h5⟩;have:i<(c.dB aD).R.length:=kF he;rw[X.Gj]at this;exact (jH hl).symm▸this
end
theorem nm'(x:Rq V c lk (Mt c.R C) P)(k:Es c.R)(hm:(c.R.length:J)<=c.aF)(hl:aD<=c.R.length):A5 (Rq V (c.dB aD) lk (Mt (c.dB aD).R C) P) (Es (c.dB aD).R) (Ls (c.R.length-aD) (c.dB aD).R) (FU (c.R.length-aD) c.R (c.dB aD).R) (jJ c (c.dB aD)):=po (cK:=λ_=>C) (λ_ _ _ _=>rfl) x k hm hl
theorem zP: (X.eB n).length=n:=by unfold X.eB;rw[cJ,pI]
theorem C8{i:O}(h:i<n):(X.eB n)[i]?=Z (.pl (4+i)):=by unfold X.eB;rw[fJ,rT h];rfl
theorem fP'(h:Ls 0 st):st=X.eB st.length:=by
 refine yM λi=>?_;by_cases hi:i<st.length
 ·rw[C8 hi,cS hi]
  exact aW Z (h i _ (nD _) (cS hi))
 ·rw[lF (kU.mp hi),lF (by rw[zP];exact kU.mp hi)]
theorem Rv: Es (X.eB n):=λi e he=>by have hi:i<n:=zP (n:=n)▸kF he;rw[C8 hi]at he;exact aT he▸ .inr rfl
theorem pd{cK:Sv->BC}(hD:∀s (h:O) v,h<c.R.length->cK (up s (4+h) v)=cK s)(x:Rq V c lk (qY c.R cK) P)(k:Es c.R)(hm:(c.R.length:J)<=c.aF):A3 (Rq V (c.dB c.R.length) lk (qY (X.eB c.R.length) cK) P) ((c.dB c.R.length).R=X.eB c.R.length) (jJ c (c.dB c.R.length)):=by
 obtain⟨h1,h2,h3,h4,h5⟩:=po (cK:=cK) hD x k hm (cE _);have e:(c.dB c.R.length).R=X.eB c.R.length:=by
  have e:=fP' (st:=(c.dB c.R.length).R) λi e hi he=>h3 i e (by rw[qB];exact hi) he;rwa [X.Gj]at e
 exact⟨e▸h1,e,h5⟩
theorem oz(x:Rq V c lk (Mt c.R C) P)(k:Es c.R)(hm:(c.R.length:J)<=c.aF):A3 (Rq V (c.dB c.R.length) lk (Mt (X.eB c.R.length) C) P) ((c.dB c.R.length).R=X.eB c.R.length) (jJ c (c.dB c.R.length)):=pd (cK:=λ_=>C) (λ_ _ _ _=>rfl) x k hm
structure We(st:Y aQ)(b fh n:O)(s s':Sv):Prop where
 to:∀i:O,i<n->s' (4+((fh+i:O):J))=Ev s (st[b+i]?.getD (.num 0))
 low:∀a:J,a<4+(fh:J)->s' a=s a
 qj:∀i:O,n<=i->∀e,st[b+i]?=Z e->Ev s' e=Ev s e
theorem eu{fh:O}(x:Rq V c lk W P)(k:Es c.R)(hb:fh<=b)(hm:(c.R.length:J)<=c.aF):∀n:O,b+n<=c.R.length->Rq V (c.rM b fh n) lk (λs' t j=>∃s,W s t j/\We c.R b fh n s s') P/\jJ c (c.rM b fh n):=by
 intro n;induction n with
 | zero=>exact λ_=>⟨x.lN λs t j z=>⟨s,z,λi h=>absurd h (Vn _),λ_ _=>rfl,λ_ _ _ _=>rfl⟩,.refl _⟩
 | succ n ih=>
  intro h2;obtain⟨g2,g4⟩:=ih (kT h2);have he:(c.R)[b+n]?=Z c.R[b+n]:=cS h2;have Yw:((b+n:O):J)<c.aF:=mZ (eZ.mpr h2) hm;have Bp:((fh+n:O):J)<c.aF:=qV (fV.mpr (dP hb n)) Yw;unfold X.rM;rw[he];refine⟨g2.OD (a:=4+((fh+n:O):J)) (by rw[g4.aF];exact (k _ _ he).o Yw) (by rw[g4.aF];exact vX Bp) λs' t j ⟨s,z,m⟩=>⟨s,z,λi hi=>?_,λa ha=>?_,λi hi e hs=>?_⟩,g4.trans OE⟩
  ·rcases PM (BN hi) with h|h
   rw[AJ λe=>mK h (PF (Ze e))];exact m.to i h;rw[h,Dh,he];exact m.qj n (cE _) _ he
  ·rw[AJ (Int.ne_of_lt (mZ ha (CR (fV.mpr (bU _ _)) 4)))];exact m.low a ha
  ·rw[MV (k _ _ hs) (rU (cM (dP hb n) (yO (Nat.lt_of_succ_le hi) b)))]
   exact m.qj i (kT hi) e hs
end
theorem Ef{p:Prop}(h:(!b)=u)(k:b=u):p:=by rw[k]at h;exact nomatch h
theorem rY{p:J->aC}{l:Y J}(h:l.all p=u){op:J}(k:op∈l):p op=u:=yL.mp h op k
theorem ML(h:op=70\/op=73):op∈[70,73]:=h.elim (λe=>e▸ .head _) λe=>e▸ .tail _ (.head _)
theorem fb'{q:RK}(h:tN q.row.op=u)(o:q.ok m):fQ (λf:Sv->J=>∀{H N eV s t k},q.wp H N eV s t k->N (up s q.row.a (f s)) t k) (λf=>∀i,bW m i->i<4->rA (λq':RK=>q'.row=⟨q.row.op,i,q.row.b,q.row.c⟩) (λq'=>q'.ok m) (λq'=>∀{H N eV s t k},N (up s i (f s)) t k->q'.wp H N eV s t k)):=by
 cases q with
 | DP a x=>exact⟨λs=>s x,id,λi hi _=>⟨.DP i x,rfl,⟨hi,o.2⟩,id⟩⟩
 | const a n=>exact⟨λ_=>n,id,λi hi _=>⟨.const i n,rfl,⟨hi,o.2⟩,id⟩⟩
 | jQ a x=>exact⟨λs=>uL (s x),id,λi hi h4=>⟨.jQ i x,rfl,⟨hi,o.2.1,.inr (.inl h4)⟩,id⟩⟩
 | dX op a x y=>exact⟨λs=>kS op (s x) (s y),id,λi hi h4=>⟨.dX op i x y,rfl,⟨o.1,hi,⟨o.2.2.1.1,.inr (.inl h4)⟩,o.2.2.2.1,.inr (.inl h4)⟩,id⟩⟩
 | pW op a x n=>exact⟨λs=>kS op (s x) n,id,λi hi h4=>⟨.pW op i x n,rfl,⟨o.1,hi,⟨o.2.2.1.1,.inr (.inl h4)⟩,o.2.2.2⟩,id⟩⟩
 | oZ b l x=>cases b<;>exact Ef (b:=tN _) rfl h
 | br op b l x y=>cases b<;>exact Ef (rY (by decide:([70,73].all λop=> !tN (op+_))=u) (ML o.1)) h
 | oT op b l x n=>cases b<;>exact Ef (rY (by decide:([70,73].all λop=> !tN (16384+op-16384+_))=u) (ML o.1)) h
 | _=>exact Ef (b:=tN _) rfl h
def Kf(a:J)(f:Sv->J):Prop:=4<=a->∀s h v,4<=h->h<a->f (up s h v)=f s
theorem Kf.at{x:J}(l:RK.lo a x):Kf a λs=>s x:=λh4 s h v h1 h2=>AJ λe=>by
 rcases l with l|l|l
 exact LP _ (mZ l (e▸h1));exact LP _ (mZ l h4);exact LP _ (qV l (e▸h2))
theorem Kf.map{f:Sv->J}(k:Kf a f)(F:J->J):Kf a λs=>F (f s):=λh4 s h v h1 h2=>aW F (k h4 s h v h1 h2)
theorem Kf.ip'{f g:Sv->J}(k:Kf a f)(l:Kf a g)(F:J->J->J):Kf a λs=>F (f s) (g s):=λh4 s h v h1 h2=>(aW (F · _) (k h4 s h v h1 h2)).trans (aW (F _) (l h4 s h v h1 h2))
inductive uG(m:J):J×Arg×J->(Sv->J)->Prop
 | num {n:_}: uG m (257,.i n,0) λ_=>n
 | pl {a:_}: bW m a->uG m (256,.i a,0) λs=>s a
 | jQ {a:_}: bW m a->uG m (69,.i a,0) λs=>uL (s a)
 | dX {op a b:_}: op=70\/op=73->bW m a->bW m b->uG m (op,.i a,b) λs=>kS op (s a) (s b)
 | pW {op a n:_}: op=70\/op=73->bW m a->bW dQ n->uG m (16384+op,.i a,n) λs=>kS op (s a) n
theorem uG.GJ{t:J×Arg×J}{f:Sv->J}(h:uG m t f):t.2.1.GJ:=by cases h<;>trivial
theorem jd(h:(!b||(op==70||op==73))=u)(k:b=u):op=70\/op=73:=by rw[k]at h;exact (Ow.mp ((Bool.false_or _).symm.trans h)).imp eq_of_beq eq_of_beq
theorem eL'{q:RK}(h:X.pO q.row.op=u)(o:q.ok m):rA (λf:Sv->J=>uG m (q.row.op,q.row.b,q.row.c) f) (λf=>∀{H N eV s t k},q.wp H N eV s t k->N (up s q.row.a (f s)) t k) (λf=>Kf q.row.a f):=by
 cases q with
 | jQ a x=>exact⟨_,.jQ o.2.1,id,(Kf.at o.2.2).map uL⟩
 | dX op a x y=>exact⟨_,.dX (jd (rY (by decide:(jL.all λop=> !X.pO op||(op==70||op==73))=u) o.1) h) o.2.2.1.1 o.2.2.2.1,id,(Kf.at o.2.2.1.2).ip' (Kf.at o.2.2.2.2) (kS op)⟩
 | pW op a x n=>exact⟨_,.pW (jd (rY (by decide:(jL.all λop=> !X.pO (16384+op)||(op==70||op==73))=u) o.1) h) o.2.2.1.1 o.2.2.2,id,(Kf.at o.2.2.1.2).map (kS op · n)⟩
 | oZ b l x=>cases b<;>exact Ef (b:=X.pO _) rfl h
 | br op b l x y=>cases b<;>exact Ef (rY (by decide:([70,73].all λop=> !X.pO (op+_))=u) (ML o.1)) h
 | oT op b l x n=>cases b<;>exact Ef (rY (by decide:([70,73].all λop=> !X.pO (16384+op-16384+_))=u) (ML o.1)) h
 | _=>exact Ef (b:=X.pO _) rfl h
theorem Ng(k:Es st):st.map (Ev (up s (4+(st.length:O)) v))=st.map (Ev s):=by
 refine yM λi=>?_;rw[fJ,fJ];cases he:st[i]? with
 | none=>rfl
 | some x=>exact aW Z (MV (k i x he) (mK (kF he)))
theorem iv'(k:Es st)(ha:a<4)(hn:∀i:O,st[i]?≠Z (.pl a)):st.map (Ev (up s a v))=st.map (Ev s):=by
 refine yM λi=>?_;rw[fJ,fJ];cases he:st[i]? with
 | none=>rfl
 | some x=>
  cases x with
  | num=>rfl
  | pl b=>exact aW Z (AJ λe=>hn i (e▸he))
theorem kc'(h:bW 4 a):kR (up s a v)=(kR s).set a.toNat v:=by obtain⟨n,rfl⟩:=yH h.1;have hn:n<4:=eZ.mp h.2;exact db hn rfl rfl rfl rfl
def wW(st:Y aQ)(f:Sv->J)(C:BC):As:=λs t k=>C (st.map (Ev s)++[f s]) (kR s) t k
theorem yV{t:Tl}: Mt (st++[e]) C s t k↔wW st (λs=>Ev s e) C s t k:=by unfold Mt wW;rw[kM];exact Iff.rfl
section
variable{d l n:J}{s:aC}
variable{V:V2}{lk:Y As}{W W':As}{P P':J->Prop}{C':BC}
theorem Rq.drop{r:dF}(x:Rq V c lk W P)(hr:c.aP.getLast? = Z r)(hf:c.bV<c.aP.length):ED (λ(_:As) (q:RK)=>r=q.row) (λ_ q=>q.ok (4+c.aF)) (λK q=>∀s t k,K s t k->q.wp V.H W (Jm c.aH lk P (c.aP.length-1)) s t k) (λK _=>Rq V {c with aP:=c.aP.dropLast} lk K P):=by obtain⟨ks,k⟩:=x;obtain⟨K,q,h1,h2,h3,h4⟩:=k.drop hr hf;exact⟨K,q,h1,h2,h3,_,h4⟩
theorem mv'(x:Rq V c lk (Mt (c.R++[e]) C) P)(k:Es (c.R++[e]))(hi:i<4)(hm:(c.R.length:J)<=c.aF):∀n,n<=c.R.length->A4 (Rq V (c.gA i n) lk (Mt ((c.gA i n).R++[e]) C) P) (Es ((c.gA i n).R++[e])) (∀j:O,j<n->(c.gA i n).R[j]?≠Z (.pl i)) (jJ c (c.gA i n)):=by
 intro n;induction n with
 | zero=>exact λ_=>⟨x,k,λj h=>absurd h (Vn _),.refl _⟩
 | succ n ih=>
  intro hn;obtain⟨h1,h2,h3,h4⟩:=ih (kT hn);have hl:n<(c.gA i n).R.length:=X.Gh.symm▸hn;have hs:c.gA i (n+1)=if (c.gA i n).R[n]?=Z (.pl i) then (c.gA i n).iK n else c.gA i n:=rfl
  by_cases hc:(c.gA i n).R[n]?=Z (.pl i)
  ·rw[hs,aZ hc]
   obtain⟨s1,s2⟩:=UL hc;have e1:(c.gA i n).R.set n (.pl (4+n))++[e]=((c.gA i n).R++[e]).set n (.pl (4+n)):=(yv n _ hl).symm;rw[s1,e1];refine⟨np' h1 h2 hc (by rw[gO hl];exact hc) (by rw[h4.aF];exact mZ (eZ.mpr hn) hm),h2.set,λj hj=>?_,h4.trans s2⟩;by_cases e:n=j
   ·rw[<-e,jZ hl]
    exact λq=>Hq hi (X6 (aT q)).symm
   ·rw[kL e]
    exact h3 j (La (BN hj) (FE e))
  ·rw[hs,aR hc]
   refine⟨h1,h2,λj hj=>?_,h4⟩;rcases PM (BN hj) with h|h
   exact h3 j h;rw[h];exact hc
theorem hD'{q:RK}{p:J->Prop}(hg:tN q.row.op=u)(o:q.ok m):q.DI p:=by
 cases q with
 | pP=>exact mX (show aE=u from hg)
 | oZ b l x=>cases b<;>exact mX (show aE=u from hg)
 | hO=>exact mX (show aE=u from hg)
 | br op b l x y=>rcases o.1 with rfl|rfl<;>cases b<;>exact mX (show aE=u from hg)
 | oT op b l x n=>rcases o.1 with rfl|rfl<;>cases b<;>exact mX (show aE=u from hg)
 | _=>exact trivial
theorem kh'(x:Rq V c lk (Mt (c.R++[e]) C) P)(k:Es (c.R++[e]))(hi:bW 4 i)(hm:(c.R.length:J)<c.aF)(hn:∀j:O,c.R[j]?≠Z (.pl i))(hC:∀vs v pl t k,pl.length=4->(∀n,e= .num n->v=n)->C (vs++[v]) pl t k->C' vs (pl.set i.toNat v) t k):A3 (Rq V (c.uV n i e) lk (Mt c.R C') P) ((c.uV n i e).R=c.R) (jJ c (c.uV n i e)):=by
 have qL:0<=c.aF:=vE (qV (eQ _) hm);have ks:Es c.R:=λh x hx=>k h x (by rw[gO (kF hx)];exact hx);have set:∀{s:Sv} {v t j},(∀n,e= .num n->v=n)->C (c.R.map (Ev s)++[v]) (kR s) t j->Mt c.R C' (up s i v) t j:=λ{s v t j} hv z=>by
  unfold Mt;rw[iv' ks hi.2 hn,kc' hi];exact hC _ _ _ _ _ rfl hv z
 have plain:A3 (Rq V (c.fS i e) lk (Mt c.R C') P) ((c.fS i e).R=c.R) (jJ c (c.fS i e)):=
  ⟨x.OD ((k _ e kZ).o hm) (Su hi qL) λs t j z=>set (λn h=>h▸rfl) (yV.mp z),X.Kq,OE⟩
 unfold X.uV;cases hr:(if n=0 then c.qH e else aB) with
 | none=>exact plain
 | some r=>
  dsimp only;by_cases hg:tN r.op=u
  ·rw[aZ hg]
   have hr:c.qH e=Z r:=by
    by_cases h0:n=0;rwa [aZ h0]at hr;rw[aR h0]at hr;exact cI hr
   obtain⟨f1,f2,f3,f4⟩:=Bk.mp hr;obtain⟨K,q,e1,o,w,x1⟩:=x.drop f1 f3;rw[e1]at hg f4 ⊢;obtain⟨f,g1,g2⟩:=fb' hg o;obtain⟨q',e2,o',g3⟩:=g2 i (Su hi qL) hi.2;refine⟨x1.cH q' e2 o' (hD' (e2▸hg) o') (λs t j z=>g3 (set (λn h=>aQ.noConfusion (f2.symm.trans h)) ?_)),rfl,⟨rfl,rfl,rfl,rfl,rfl,rfl⟩⟩;have z1:=yV.mp (g1 (w s t j z));rw[f4,f2]at z1;unfold wW at z1;rw[Ng ks,IQ]at z1;have z2:C (c.R.map (Ev s)++[up s (4+(c.R.length:J)) (f s) (4+(c.R.length:J))]) (kR s) t j:=z1;rwa [Dh]at z2
  ·rw[aR hg];exact plain
theorem ka(x:Rq V c lk (Mt (c.R++[e]) C) P)(k:Es (c.R++[e]))(hi:bW 4 i)(hm:(c.R.length:J)<c.aF)(hC:∀vs v pl t k,pl.length=4->(∀n,e= .num n->v=n)->C (vs++[v]) pl t k->C' vs (pl.set i.toNat v) t k):A3 (Rq V (c.lM i e) lk (Mt (c.lM i e).R C') P) (Es (c.lM i e).R) (jJ c (c.lM i e)):=by unfold X.lM;obtain⟨h1,h2,h3,h4⟩:=mv' (i:=i) x k hi.2 (vE hm) c.R.length (cE _);obtain⟨g1,g2,g3⟩:=kh' (n:=c.AF i c.R.length) (i:=i) (e:=e) h1 h2 hi (by rw[X.Gh,h4.aF];exact hm) (λj q=>h3 j (X.Gh (x:=c)▸kF q) q) hC;exact⟨g2.symm▸g1,g2.symm▸λh x hx=>h2 h x (by rw[gO (kF hx)];exact hx),h4.trans g3⟩
theorem dx'(x:Rq V c lk (Mt (c.R++[e]) C) P)(k:Es (c.R++[e]))(hm:(c.R.length:J)<c.aF):rA (λf=>uG (4+c.aF) (c.dC e).2 f) (λf=>Rq V (c.dC e).1 lk (wW c.R f C) P) (λf=>Kf (4+(c.R.length:O)) f):=by
 have ke:=k _ e kZ;have ks:Es c.R:=λh x hx=>k h x (by rw[gO (kF hx)];exact hx);have plain:rA (λf=>uG (4+c.aF) (X.eJ e) f) (λf=>Rq V c lk (wW c.R f C) P) (λf=>Kf (4+(c.R.length:O)) f):=by
  cases e with
  | num n=>exact⟨_,.num,x.lN λs t j z=>yV.mp z,λ_ _ _ _ _ _=>rfl⟩
  | pl a=>exact⟨_,.pl (ke.o hm),x.lN λs t j z=>yV.mp z,Kf.at (ke.elim (λh=>.inl h.2) λh=>.inr (.inr (Dq h.symm)))⟩
 unfold X.dC;cases hr:c.qH e with
 | none=>exact plain
 | some r=>
  dsimp only;by_cases hg:X.pO r.op=u
  ·rw[aZ hg]
   obtain⟨f1,f2,f3,f4⟩:=Bk.mp hr;obtain⟨K,q,e1,o,w,x1⟩:=x.drop f1 f3;rw[e1]at hg f4 ⊢;obtain⟨f,g1,g2,g3⟩:=eL' hg o;refine⟨f,g1,x1.lN λs t j z=>?_,f4▸g3⟩;have z1:=yV.mp (g2 (w s t j z));rw[f4,f2]at z1;unfold wW at z1;rw[Ng ks,IQ]at z1;have z2:C (c.R.map (Ev s)++[up s (4+(c.R.length:J)) (f s) (4+(c.R.length:J))]) (kR s) t j:=z1;rwa [Dh]at z2
  ·rw[aR hg];exact plain
theorem dy': jJ c (c.dC e).1/\(c.dC e).1.R=c.R:=by
 unfold X.dC;cases c.qH e with
 | none=>exact⟨.refl _,rfl⟩
 | some r=>
  dsimp only;by_cases hg:X.pO r.op=u;rw[aZ hg];exact⟨⟨rfl,rfl,rfl,rfl,rfl,rfl⟩,rfl⟩;rw[aR hg];exact⟨.refl _,rfl⟩
theorem cM':∃bG,c.mO op n d s l= {c with aP:=bG}:=by
 unfold X.mO;repeat' split
 all_goals exact⟨_,rfl⟩
theorem QK: jJ c (c.mO op n d s l)/\(c.mO op n d s l).R=c.R:=by obtain⟨bG,e⟩:=cM' (c:=c) (op:=op) (n:=n) (d:=d) (s:=s) (l:=l);rw[e];exact⟨⟨rfl,rfl,rfl,rfl,rfl,rfl⟩,rfl⟩
theorem aB': decide (Fc b≠0)=b:=by cases b<;>rfl
theorem eb'{x:J}: (decide (uL x≠0)==b)=(decide (x≠0)== !b):=by
 unfold uL;rw[aB'];by_cases h:x=0
 ·rw[decide_eq_true h,FJ (JM h)];cases b<;>rfl
 ·rw[FJ h,decide_eq_true h];cases b<;>rfl
theorem QJ{t:J×Arg×J}{f:Sv->J}(x:Rq V c lk W P)(ht:uG (4+c.aF) t f)(w:∀s t k,W s t k->cW (decide (f s≠0)==b) (Jm c.aH lk P c.aP.length l s t k) (W' s t k))(lb:Lp c.aH P l):Rq V (c.mO t.1 t.2.1.n t.2.2 b l) lk W' P:=by
 cases ht with
 | @num n=>
  show Rq V (if (257:J)=257 then (if (n != 0)==b then c.cH 259 l (.i 0) 0 else c) else _) lk W' P;rw[aZ rfl];have e:(n != 0)=decide (n≠0):=Ou.mpr (by rw[Dy,WF]);cases h:(n != 0)==b with
  | true=>exact x.cH (.pP l) rfl trivial lb λs t k z=>by have:=w s t k z;rw[<-e,h]at this;exact this
  | false=>exact x.lN λs t k z=>by have:=w s t k z;rw[<-e,h]at this;exact this
 | @pl a h=>
  show Rq V (if (256:J)=257 then _ else if (256:J)=256 then _ else _) lk W' P;rw[aR (by decide),aZ rfl];exact x.cH (.oZ b l a) rfl h lb w
 | @jQ a h=>
  show Rq V (if (69:J)=257 then _ else if (69:J)=256 then _ else if (69:J)=69\/(69:J)=80 then _ else _) lk W' P;rw[aR (by decide),aR (by decide),aZ (.inl rfl)];exact x.cH (.oZ (!b) l a) (by cases b<;>rfl) h lb λs t k z=>by
   have z1:cW (decide (uL (s a)≠0)==b) _ _:=w s t k z;rwa [eb']at z1
 | @dX op a d gX h1 h2=>
  rcases gX with rfl|rfl
  exact x.cH (.br 70 b l a d) rfl ⟨.inl rfl,h1,h2⟩ lb w;exact x.cH (.br 73 b l a d) rfl ⟨.inr rfl,h1,h2⟩ lb w
 | @pW op a n gX h1 h2=>
  rcases gX with rfl|rfl
  exact x.cH (.oT 70 b l a n) rfl ⟨.inl rfl,h1,h2⟩ lb w;exact x.cH (.oT 73 b l a n) rfl ⟨.inr rfl,h1,h2⟩ lb w
end
structure Gd(c y:X):Prop where
 aH:y.aH=c.aH
 bV:y.bV=c.bV
 aA:y.aA=c.aA
 bH:y.bH=c.bH
 cL:y.cL=c.cL
 aF:c.aF<=y.aF
 qO:y.aF<=c.aF+1
theorem Gd.xB(s:jJ c y)(g:Gd y z):Gd c z:=⟨g.aH.trans s.aH,g.bV.trans s.bV,g.aA.trans s.aA,g.bH.trans s.bH,g.cL.trans s.cL,s.aF▸g.aF,s.aF▸g.qO⟩
theorem Gd.push(h:(c.R.length:J)<=c.aF):Gd c (c.push e):=⟨rfl,rfl,rfl,rfl,rfl,IA,jy h⟩
structure Lv(V:V2)(x:X)(lk:Y As)(C:BC)(P:J->Prop):Prop where
 rq:Rq V x lk (Mt x.R C) P
 es:Es x.R
 aF:(x.R.length:J)<=x.aF
theorem Es.left{st bG:Y aQ}(k:Es (st++bG)):Es st:=λh x hx=>k h x (by rw[gO (kF hx)];exact hx)
theorem iw'{n:J}(k:Es st)(he:st[h]?=Z (.num n)):st.map (Ev (up s (4+h) v))=st.map (Ev s):=by
 refine yM λi=>?_;rw[fJ,fJ];cases hi:st[i]? with
 | none=>rfl
 | some x=>
  by_cases e:i=h
  ·rw[e,he]at hi
   exact aT hi▸rfl
  ·exact aW Z (MV (k i x hi) e)
theorem pI'{x y:J}(h:op∈jL)(ht:oM op Iq=u):kS op x y=kS op y x:=by
 have hc:op=106\/op=108\/op=115\/op=70:=by
  have:(jL.all λop=> !oM op Iq||(op==106||(op==108||(op==115||op==70))))=u:=by decide
  have h1:=rY this h;rw[ht]at h1;have h1:(op==106||(op==108||(op==115||op==70)))=u:=h1;exact (Ow.mp h1).imp eq_of_beq λh=>(Ow.mp h).imp eq_of_beq λh=>(Ow.mp h).imp eq_of_beq eq_of_beq
 rcases hc with rfl|rfl|rfl|rfl
 exact aW (·.fmod dQ) (LO x y);exact aW (·.fmod dQ) (VN x y)
 ·show CP x y=CP y x
  unfold CP IK HL;by_cases h:0<=x/\0<=y;rw[aZ h,aZ h,aZ h.symm,aZ h.symm,Nat.or_comm,Nat.and_comm];rw[aR h,aR h,aR λq=>h q.symm,aR λq=>h q.symm]
 ·exact aW Fc (Ou.mpr (by rw[WF,WF];exact eq_comm))
section
variable{V:V2}{lk:Y As}{W W':As}{P P':J->Prop}{C':BC}
theorem Hs{t:Tl}(ks:Es st)(z:C (st.map (Ev s)++[v]) (kR s) t k):Mt (st++[.pl (4+(st.length:O))]) C (up s (4+(st.length:O)) v) t k:=by refine yV.mpr ?_;unfold wW;rw[Ng ks,IQ];show C (_++[up s (4+(st.length:J)) v (4+(st.length:J))]) _ _ _;rwa [Dh]
theorem Qb{b:Arg}{d:J}{q:RK}(x:Rq V c lk W P)(ks:Es c.R)(hm:(c.R.length:J)<=c.aF)(e:q.row=⟨op,4+(c.R.length:O),b,d⟩)(o:q.ok (4+c.iJ.aF))(lb:∀p,q.DI p)(w:∀s t k,W s t k->q.wp V.H (Mt (c.R++[.pl (4+(c.R.length:O))]) C') (Jm c.aH lk P c.aP.length) s t k):Lv V (c.iJ.cH op (4+(c.R.length:O)) b d) lk C' P/\Gd c (c.iJ.cH op (4+(c.R.length:O)) b d):=
 ⟨⟨Rq.cH (c:=c.iJ) x.push q e o (lb _) w,ks.push (.inr rfl),Kp (c:=c) (e:=.pl (4+(c.R.length:O)))⟩,⟨rfl,rfl,rfl,rfl,rfl,IA (e:=.pl (4+(c.R.length:O))),jy (e:=.pl (4+(c.R.length:O))) hm⟩⟩
theorem Nj: (c.R.length:J)<(c.push e).aF:=mZ (eZ.mpr (iB _)) (by have:=Kp (c:=c) (e:=e);rwa [show (c.push e).R=c.R++[e] from rfl,bA]at this)
theorem US{bG:Y aQ}(x:Rq V c lk (Mt (c.R++e::bG) C) P)(k:Es (c.R++e::bG))(hm:(c.R.length:J)<c.aF):A5 (Rq V (c.fT c.R.length e).1 lk (λs t j=>Mt (c.R++e::bG) C s t j/\s (c.fT c.R.length e).2=Ev s e) P) (bW (4+c.aF) (c.fT c.R.length e).2) (jJ c (c.fT c.R.length e).1) ((c.fT c.R.length e).1.R=c.R) (RK.lo (4+(c.R.length:O)) (c.fT c.R.length e).2):=by
 have he:(c.R++e::bG)[c.R.length]?=Z e:=by rw[oP (cE _),qB];rfl
 have ho:=(k _ _ he).o hm;cases e with
 | num n=>exact⟨x.cH (.const (4+(c.R.length:O)) n) rfl ⟨vX hm,ho⟩ trivial λs t j z=>⟨by unfold Mt;rw[iw' k he,IQ];exact z,Dh⟩,vX hm,⟨rfl,rfl,rfl,rfl,rfl,rfl⟩,rfl,.inr (.inr (mY _))⟩
 | pl a=>exact⟨x.lN λs t j z=>⟨z,rfl⟩,ho,.refl _,rfl,(k _ _ he:Ea c.R.length (.pl a)).elim (λh=>.inl h.2) λh=>.inr (.inr (Dq h.symm))⟩
theorem cu{b:J}(k:Ea (h+1) (.pl b)):RK.lo (4+(h:O)) b:=k.elim (λh=>.inl h.2) λe=>.inr (.inr (e▸CR (fV.mpr (nC h)) 4))
theorem jC'(x:Rq V c lk (Mt (c.R++[e]) C) P)(k:Es (c.R++[e]))(hm:(c.R.length:J)<c.aF)(hC:∀vs v pl t k,C (vs++[v]) pl t k->C' (vs++[uL v]) pl t k):Lv V (c.eY 69 e) lk C' P/\Gd c (c.eY 69 e):=by
 obtain⟨h1,h2,h3,h4,h5⟩:=US (bG:=[]) x k hm;unfold X.eY;dsimp only;generalize (c.fT c.R.length e).2=a at *;generalize (c.fT c.R.length e).1=y at *;have r:=Qb (c:=y) (q:=.jQ (4+(y.R.length:O)) a) (C':=C') (d:=0) h1 (h4▸k.left) (by rw[h4,h3.aF];exact vE hm) rfl ⟨vX Nj,h2.cV (by rw[<-h3.aF];exact CR IA 4),h4▸h5⟩ (λ_=>trivial) λs t j z=>by
  refine Hs (h4▸k.left) ?_;rw[z.2,h4];exact hC _ _ _ _ _ (yV.mp z.1)
 exact⟨r.1,r.2.xB h3⟩
theorem pL'(x:Rq V c lk (Mt (c.R++[e1,e2]) C) P)(k:Es (c.R++[e1,e2]))(hm:(c.R.length:J)+1<c.aF)(gX:op∈jL)(hC:∀vs aN v pl t k,C (vs++[aN,v]) pl t k->C' (vs++[kS op aN v]) pl t k):Lv V (c.dX op e1 e2) lk C' P/\Gd c (c.dX op e1 e2):=by
 have qL:(c.R.length:J)<c.aF:=yI (I1 (mY _)) hm;have split:∀{s:Sv} {t j},Mt (c.R++[e1,e2]) C s t j->C (c.R.map (Ev s)++[Ev s e1,Ev s e2]) (kR s) t j:=λz=>by
  unfold Mt at z;rwa [kM]at z
 have k2:Ea (c.R.length+1) e2:=k _ _ (by rw[oP (bU _ 1),wQ];rfl);have o2:Eo c.aF e2:=k2.o hm;unfold X.dX;by_cases hc:(e1.xR && !e2.xR&&oM op Iq)=u
 ·rw[aZ hc]
  have h1:=AM.mp hc;cases e1 with
  | pl a=>exact nomatch h1.1
  | num n=>
   cases e2 with
   | num m=>exact nomatch h1.1
   | pl b=>
    have k1:Ea c.R.length (.num n):=k _ _ (by rw[oP (cE _),qB];rfl);refine Qb (q:=.pW op (4+(c.R.length:O)) b n) x k.left (vE qL) rfl ⟨gX,vX Nj,⟨o2.cV (CR IA 4),cu k2⟩,k1⟩ (λ_=>trivial) λs t j z=>Hs k.left ?_;rw[pI' gX h1.2];exact hC _ _ _ _ _ _ (split z)
 ·rw[aR hc]
  obtain⟨h1,h2,h3,h4,h5⟩:=US (bG:=[e2]) x k qL;generalize (c.fT c.R.length e1).2=a at *;generalize (c.fT c.R.length e1).1=y at *;have Ss:4+c.aF<=4+y.iJ.aF:=by rw[<-h3.aF];exact CR IA 4
  have go:∀{q:RK},q.row=⟨if e2.xR then 16384+op else op,4+(y.R.length:O),.i a,e2.n⟩->q.ok (4+y.iJ.aF)->(∀s t j,Mt (y.R++[.pl (4+(y.R.length:O))]) C' (up s (4+(y.R.length:O)) (kS op (s a) (Ev s e2))) t j->q.wp V.H (Mt (y.R++[.pl (4+(y.R.length:O))]) C') (Jm y.aH lk P y.aP.length) s t j)->(∀p,q.DI p)->Lv V (y.iJ.cH (if e2.xR then 16384+op else op) (4+(y.R.length:O)) (.i a) e2.n) lk C' P/\Gd c (y.iJ.cH (if e2.xR then 16384+op else op) (4+(y.R.length:O)) (.i a) e2.n):=λe o w lb=>by
   have r:=Qb (c:=y) (C':=C') h1 (h4▸k.left) (by rw[h4,h3.aF];exact vE qL) e o lb λs t j z=>w s t j (Hs (h4▸k.left) (by rw[z.2,h4];exact hC _ _ _ _ _ _ (split z.1)));exact⟨r.1,r.2.xB h3⟩
  cases e2 with
  | num n=>exact go (q:=.pW op (4+(y.R.length:O)) a n) rfl ⟨gX,vX Nj,⟨h2.cV Ss,h4▸h5⟩,o2⟩ (λ_ _ _ z=>z) λ_=>trivial
  | pl b=>exact go (q:=.dX op (4+(y.R.length:O)) a b) rfl ⟨gX,vX Nj,⟨h2.cV Ss,h4▸h5⟩,o2.cV Ss,h4▸cu k2⟩ (λ_ _ _ z=>z) λ_=>trivial
end
theorem QY{c:X}:∀m,(c.jP m).R=c.R.take (c.R.length-m)/\jJ c (c.jP m)/\(c.jP m).aP=c.aP
 | 0=>⟨(CV).symm,.refl _,rfl⟩
 | m+1=>by
  obtain⟨h1,h2,h3⟩:=QY (c:=c) m;refine⟨?_,⟨h2.aH,h2.bV,h2.aA,h2.aF,h2.bH,h2.cL⟩,h3⟩;show (c.jP m).R.dropLast=_;rw[h1,VT,List.take_take,Dt,FC (fW _ _),FC (fW _ _),JD]
theorem Rq.dQ'{V:V2}{lk:Y As}{W:As}{P:J->Prop}(x:Rq V c lk W P)(m:O):Rq V (c.jP m) lk W P:=by obtain⟨h1,h2,h3⟩:=QY (c:=c) m;obtain⟨ks,k⟩:=x;exact⟨ks,by rw[h3,h2.aH,h2.bV,h2.aF];exact k⟩
theorem fO'{bD:Y aQ}(h:Ls n bD):bD=bD.take n++(fX (bD.length-n)).map λi:O=>.pl (4+((n+i:O):J)):=by
 conv=>lhs;rw[<-Vf n bD]
 refine aW (bD.take n ++ ·) (yM λi=>?_);rw[I3,fJ];by_cases hi:i<bD.length-n
 ·have hl:=Nat.add_lt_of_lt_sub' hi
  rw[rT hi,cS hl];exact aW Z (h _ _ (bU _ _) (cS hl))
 ·rw[lF (zu.mp (kU.mp hi)),lF (by rw[pI];exact kU.mp hi)];rfl
section
variable{V:V2}{lk:Y As}{W W':As}{P P':J->Prop}{C':BC}
theorem pg(x:Lv V c lk C P)(hl:aD<=c.R.length):A5 (Rq V ((c.dB aD).jP aD) lk (Mt (((c.dB aD).jP aD).R++(fX aD).map λi:O=>.pl (4+((c.R.length-aD+i:O):J))) C) P) (Es ((c.dB aD).jP aD).R) (((c.dB aD).jP aD).R.length=c.R.length-aD) (jJ c ((c.dB aD).jP aD)) (FU (c.R.length-aD) c.R ((c.dB aD).jP aD).R):=by obtain⟨h1,h2,h3,h4,h5⟩:=nm' x.rq x.es x.aF hl;have dE:(c.dB aD).R.length=c.R.length:=X.Gj;obtain⟨d1,d2,d3⟩:=QY (c:=c.dB aD) aD;have e:=fO' h3;rw[dE]at d1 e;rw[zw hl]at e;rw[d1];refine⟨e▸h1.dQ' aD,(e▸h2:Es _).left,?_,h5.trans d2,λi hi=>?_⟩;rw[Dt,dE];exact FC (fW _ _);rw[VY hi];exact h4 i hi
theorem XF(x:Lv V c lk C P)(hl:2<=c.R.length)(hC:∀vs aN v pl t k,C (vs++[aN,v]) pl t k->C' (vs++[v,(aN+1).fmod dQ]) pl (t++[(aN,v)]) k):A4 (Lv V (c.call 0 2 2) lk C' P) (Gd c (c.call 0 2 2)) ((c.call 0 2 2).R.length=c.R.length) (FU (c.R.length-2) c.R (c.call 0 2 2).R):=by
 obtain⟨h1,h2,h3,h4,h5⟩:=pg x hl;have hn:c.R.length-2+2=c.R.length:=jH hl;have hm:((c.R.length-2+2:O):J)<=c.aF:=by rw[hn];exact x.aF
 unfold X.call;generalize c.R.length-2=n at *;generalize (c.dB 2).jP 2=y at *;have b1:(4:J)+(n:J)+1=4+((n+1:O):J):=BJ 4 (n:J) 1;have k1:Es (y.R++[.pl (4+(y.R.length:O))]):=h2.push (.inr rfl);have m1:bW (4+y.aF) (4+(n:O)):=vX (by rw[h4.aF];exact mZ (eZ.mpr (PK (by decide))) hm);have m2:bW (4+y.aF) (4+((n+1:O):J)):=vX (by rw[h4.aF];exact mZ (eZ.mpr (iB _)) hm);have x3:Rq V (y.cH 263 0 (.i (4+(n:O))) 0) lk (Mt (y.R++[.pl (4+(y.R.length:O))]++[.pl (4+((y.R++[aQ.pl (4+(y.R.length:O))]).length:O))]) C') P:=by
  refine h1.cH (.call (4+(n:O))) rfl ⟨m1,b1▸m2⟩ trivial λs t j z=>?_;have z1:C (y.R.map (Ev s)++[s (4+((n+0:O):J)),s (4+((n+1:O):J))]) (kR s) t j:=by
   unfold Mt at z;rwa [kM]at z
  have z2:=hC _ _ _ _ _ _ z1;show Mt _ C' (up (up s (4+(n:O)) (s (4+(n:O)+1))) (4+(n:O)+1) ((s (4+(n:O))+1).fmod dQ)) (t++[(s (4+(n:O)),s (4+(n:O)+1))]) j;have nJ:(y.R++[aQ.pl (4+(y.R.length:O))]).length=n+1:=by rw[bA,h3];rfl
  rw[b1,<-nJ];refine Hs k1 ?_;rw[nJ,<-h3,kM,Ng h2,IQ,fB];show C' (_++([up s (4+(y.R.length:J)) (s _) (4+(y.R.length:J))]++[_])) _ _ _;rw[Dh,h3];exact z2
 have ly:(y.iJ).R.length=n+1:=by show (y.R++[_]).length=_;rw[bA,h3];rfl
 have p1:y.iJ.aF=y.aF:=aR (oD.mpr (by rw[h3,h4.aF];exact gB (fV.mpr (nC (n+1))) hm));have p2:y.iJ.iJ.aF=y.aF:=(aR (oD.mpr (by rw[p1,ly,h4.aF];exact hm))).trans p1;refine⟨⟨x3.push.push,k1.push (.inr rfl),?_⟩,⟨h4.aH,h4.bV,h4.aA,h4.bH,h4.cL,?_,?_⟩,?_,λi hi=>?_⟩
 ·show ((y.R++[_]++[_]).length:J)<=y.iJ.iJ.aF
  rw[p2,h4.aF,bA,bA,h3];exact hm
 ·show c.aF<=y.iJ.iJ.aF
  rw[p2,h4.aF];exact mY _
 ·show y.iJ.iJ.aF<=_
  rw[p2,h4.aF];exact CB
 ·show (y.R++[_]++[_]).length=_
  rw[bA,bA,h3];exact hn
 ·show (y.R++[_]++[_])[i]?=_
  rw[fB,gO (h3.symm▸hi)];exact h5 i hi
end
theorem Gb(h:1<=x.R.length):x.R=x.pop.R++[x.cD]:=by
 have h1:=yC h;have gF:x.R≠[]:=λe=>by rw[e]at h;exact absurd h (by decide)
 rw[yf gF]at h1;show x.R=x.R.dropLast++[x.cD];rw[<-aT h1];exact (VS gF).symm
theorem DV: x.pop.R.length=x.R.length-1:=iR
section
variable{V:V2}{lk:Y As}{W W':As}{P P':J->Prop}{C':BC}
theorem oe(x:Lv V c lk C P)(hl:3<=c.R.length)(hC:∀vs a b q pl t k,C (vs++[a,b,q]) pl t k->C' (vs++[if q≠0 then a else b]) pl t k):A4 (Lv V ((((c.dB 3).jP 3).cH 258 (4+(c.R.length-3:O)) (.i 0) 0).iJ) lk C' P) (Gd c ((((c.dB 3).jP 3).cH 258 (4+(c.R.length-3:O)) (.i 0) 0).iJ)) (((((c.dB 3).jP 3).cH 258 (4+(c.R.length-3:O)) (.i 0) 0).iJ).R.length=c.R.length-3+1) (FU (c.R.length-3) c.R ((((c.dB 3).jP 3).cH 258 (4+(c.R.length-3:O)) (.i 0) 0).iJ).R):=by
 obtain⟨h1,h2,h3,h4,h5⟩:=pg x hl;have hn:c.R.length-3+3=c.R.length:=jH hl;have hm:((c.R.length-3+3:O):J)<=c.aF:=by rw[hn];exact x.aF
 generalize c.R.length-3=n at *;generalize (c.dB 3).jP 3=y at *;have b1:(4:J)+(n:J)+1=4+((n+1:O):J):=BJ 4 (n:J) 1;have b2:(4:J)+(n:J)+2=4+((n+2:O):J):=BJ 4 (n:J) 2;have mi:∀i:O,i<3->bW (4+y.aF) (4+((n+i:O):J)):=λi hi=>vX (by rw[h4.aF];exact mZ (eZ.mpr (yO hi n)) hm);have x3:Rq V (y.cH 258 (4+(n:O)) (.i 0) 0) lk (Mt (y.R++[.pl (4+(y.R.length:O))]) C') P:=by
  refine h1.cH (.nY (4+(n:O))) rfl ⟨mi 0 (by decide),b1▸mi 1 (by decide),b2▸mi 2 (by decide)⟩ trivial λs t j z=>?_;have z1:C (y.R.map (Ev s)++[s (4+((n+0:O):J)),s (4+((n+1:O):J)),s (4+((n+2:O):J))]) (kR s) t j:=by
   unfold Mt at z;rwa [kM]at z
  have z2:=hC _ _ _ _ _ _ _ z1;rw[<-b1,<-b2]at z2;show Mt _ C' (up s (4+(n:O)) _) t j;rw[<-h3]at z2 ⊢;exact Hs h2 z2
 have p1:y.iJ.aF=y.aF:=aR (oD.mpr (by rw[h3,h4.aF];exact gB (fV.mpr (eR (by decide:1<=3) n)) hm));refine⟨⟨x3.push,h2.push (.inr rfl),?_⟩,⟨h4.aH,h4.bV,h4.aA,h4.bH,h4.cL,?_,?_⟩,?_,λi hi=>?_⟩
 ·show ((y.R++[_]).length:J)<=y.iJ.aF
  rw[p1,h4.aF,bA,h3];exact gB (fV.mpr (eR (by decide:1<=3) n)) hm
 ·show c.aF<=y.iJ.aF
  rw[p1,h4.aF];exact mY _
 ·show y.iJ.aF<=_
  rw[p1,h4.aF];exact CB
 ·show (y.R++[_]).length=_
  rw[bA,h3];rfl
 ·show (y.R++[_])[i]?=_
  rw[gO (h3.symm▸hi)];exact h5 i hi
theorem mU'{n:J}(x:Rq V c lk (Mt (c.R++[e1,e2,.num n]) C) P)(k:Es (c.R++[e1,e2,.num n]))(hm:(c.R.length:J)+1<c.aF)(hC:∀vs a b q pl t k,C (vs++[a,b,q]) pl t k->C' (vs++[if q≠0 then a else b]) pl t k):(n≠0->Rq V c lk (Mt (c.R++[e1]) C') P)/\(n=0->A3 (Lv V (c.uY e2) lk C' P) (Gd c (c.uY e2)) (∃e,(c.uY e2).R=c.R++[e])):=by
 have qL:(c.R.length:J)<c.aF:=yI (I1 (mY _)) hm;have split:∀{s:Sv} {t j},Mt (c.R++[e1,e2,.num n]) C s t j->C' (c.R.map (Ev s)++[if n≠0 then Ev s e1 else Ev s e2]) (kR s) t j:=λz=>by
  unfold Mt at z;rw[kM]at z;exact hC _ _ _ _ _ _ _ z
 have k2:Ea (c.R.length+1) e2:=k _ _ (by rw[oP (bU _ 1),wQ];rfl);refine⟨λhn=>x.lN λs t j z=>yV.mpr ?_,λhn=>?_⟩
 ·have:=split z
  rwa [aZ hn]at this
 ·have z2:∀{s:Sv} {t j},Mt (c.R++[e1,e2,.num n]) C s t j->C' (c.R.map (Ev s)++[Ev s e2]) (kR s) t j:=λz=>by
   have:=split z;rwa [aR (JM hn)]at this
  unfold X.uY;by_cases h:e2= .pl (4+((c.R.length:J)+1))
  ·rw[aZ h]
   have x1:=x.OD (a:=4+(c.R.length:O)) (e:=e2) (W':=Mt (c.R++[.pl (4+(c.R.length:O))]) C') (k2.o hm) (vX qL) λs t j z=>Hs k.left (z2 z);have s1:=OE (c:=c) (s:=4+(c.R.length:O)) (e:=e2);have s2:(c.fS (4+(c.R.length:O)) e2).R=c.R:=X.Kq;have s3:((c.fS (4+(c.R.length:O)) e2).push (.pl (4+(c.R.length:O)))).R=c.R++[.pl (4+(c.R.length:O))]:=aW (· ++ _) s2;exact⟨⟨s3.symm▸Rq.push x1,s3.symm▸k.left.push (.inr rfl),Kp⟩,(Gd.push (c:=c.fS (4+(c.R.length:O)) e2) (e:=.pl (4+(c.R.length:O))) (by rw[s2,s1.aF];exact vE qL)).xB s1,_,s3⟩
  ·rw[aR h]
   refine⟨⟨Rq.push (x.lN λs t j z=>yV.mpr (z2 z)),k.left.push ?_,Kp⟩,Gd.push (vE qL),_,rfl⟩;cases e2 with
   | num m=>exact k2
   | pl a=>exact k2.elim .inl λq=>absurd (q▸rfl) h
end
structure Gf where
 be:BC
 bb:BC
 bx:BC
 hb:O
 pp:O
 rr:O
variable{g:Gf}
def kk(C:BC):BC:=λvs pl t k=>C vs pl t k/\k<=2
def Mh(n:O)(C:BC):As:=Mt (X.eB n) C
structure wV(aH:Y J)(lk:Y As)(aF:J)(p:O×aC)(g:Gf)(f:Fr)(el:O):Prop where
 loop:f.code=3↔p.2=u
 aD:f.aD=(p.1:J)
 bP:f.bP=(g.hb:J)
 params:f.params=(g.pp:J)
 gS:f.gS=(g.rr:J)
 gE:f.gE=Z (el:J)
 dY:lk[el]?=Z (Mh (g.hb+g.rr) g.be)
 le:g.pp<=2/\g.rr<=2
 fit:(g.hb+g.pp:J)<=aF
 EI:f.code=3->yY (λbl _:O=>f.Fe=Z (bl:J)) (λbl _=>lk[bl]?=Z (Mh (g.hb+g.pp) (kk g.bb))) (λbl q=>aH[bl]?=Z (q:J))
 dG:∀l,f.eE=Z l->fQ (λe:O=>l=(e:J)) (λe=>lk[e]?=Z (Mh (g.hb+g.pp) g.bx))
structure gV(aA:Y Fr)(aH:Y J)(lk:Y As)(aF:J)(L:Y (O×aC))(G:Y Gf):Prop where
 len:aA.length=L.length
 rF:G.length=L.length
 ok:∀(k:O) p g f,L[k]?=Z p->G[k]?=Z g->aA[k]?=Z f->jO λel=>wV aH lk aF p g f el
 cV:∀(i j:O) f g,i<=j->aA[i]?=Z f->aA[j]?=Z g->f.bP<=g.bP
 zero:∀f,aA[0]?=Z f->f.bP=0
def dJ(aA:Y Fr)(l:J):Prop:=∃f∈aA,(f.used=u/\f.gE=Z l)\/f.eE=Z l
def No:As:=λ_ _ _=>False
structure At(V:V2)(x:X)(n:O)(L:Y (O×aC))(G:Y Gf)(h:aG O)(C:BC):Prop where
 aP:rA (λlk=>gV x.aA x.aH lk x.aF L G) (λlk=>x.bH=u->Rq V x lk (Mt x.R C) (dJ x.aA)/\Es x.R) (λlk=>x.bH=aE->Rq V x lk No (dJ x.aA))
 skip:x.cL=0
 high:x.bH=u->fQ (λhh:O=>h=Z hh) (λhh=>(x.R.length:J)=x.bF.bP+hh)
 below:x.bH=u->∀i:O,(i:J)<x.bF.bP->x.R[i]?=Z (.pl (4+i))
 aF:(x.R.length:J)<=x.aF
 qO:x.aF+x.aA.length<=n+3
 size:x.size<=262*(n+1)
 bV:0<=x.bV
def kW(m:J)(c y:X):Prop:=∀i:O,(i:J)<m->c.R[i]?=Z (.pl (4+i))->y.R[i]?=Z (.pl (4+i))
theorem kW.trans(a:kW m x y)(b:kW m y z):kW m x z:=λi hi h=>b i hi (a i hi h)
theorem kW.of_eq(h:y.R=x.R):kW m x y:=λi _ hi=>by rw[h];exact hi
theorem kW.dI{e:Y aQ}(h:y.R=x.R++e):kW m x y:=λi _ hi=>by rw[h,gO (kF hi)];exact hi
theorem kW.to(h:FU n x.R y.R)(hm:m<=n):kW m x y:=λi hi e=>(h i (eZ.mp (mZ hi hm))).trans e
theorem kW.pop(h:m<x.R.length):kW m x x.pop:=λi hm hi=>by show x.R.dropLast[i]?=_;rw[Gx,aZ];exact hi;exact Vk (eZ.mp (qV (Int.add_one_le_of_lt hm) h))
theorem kW.iK: kW m x (x.iK h):=λi hm hi=>by
 by_cases hl:h<x.R.length
 ·rw[(UL (cS hl)).1]
  by_cases e:h=i;rw[<-e,jZ hl];rw[kL e];exact hi
 ·have e:x.iK h=x:=by
   unfold X.iK;rw[lF (sY hl)]
  rw[e];exact hi
theorem kW.gA(n:O):kW m x (x.gA i n):=by
 induction n with
 | zero=>exact .of_eq rfl
 | succ n ih=>
  show kW m x (if (x.gA i n).R[n]?=Z (.pl i) then (x.gA i n).iK n else x.gA i n);by_cases h:(x.gA i n).R[n]?=Z (.pl i);rw[aZ h];exact ih.trans .iK;rw[aR h];exact ih
theorem kW.lM: kW m x (x.lM i e):=
 (kW.gA x.R.length).trans (.of_eq X.jz.2)
section
variable{V:V2}{G:Y Gf}{h:aG O}{C':BC}{lk:Y As}
theorem At.zE(a:At V x n L G h C)(hd:x.bH=aE){h':aG O}{C':BC}: At V x n L G h' C':=by obtain⟨lk,h1,h2,h3⟩:=a.aP;exact⟨⟨lk,h1,λq=>mX (hd.symm.trans q),h3⟩,a.skip,λq=>mX (hd.symm.trans q),λq=>mX (hd.symm.trans q),a.aF,a.qO,a.size,a.bV⟩
theorem gV.up(k:gV aA aH lk m L G)(h:m<=m'):gV aA aH lk m' L G:=
 ⟨k.len,k.rF,λi p g f hp hg hf=>by
  obtain⟨el,ok⟩:=k.ok i p g f hp hg hf;exact⟨el,{ok with fit:=gB ok.fit h}⟩,k.cV,k.zero⟩
theorem At.tV(a:At V x n L G h C):x.R.length<=n+3:=fV.mp (gB a.aF (gB (wO (eQ _)) a.qO))
theorem At.mx(a:At V x n L G h C)(hn:n<=236):x.aF<=239:=gB (gB (wO (eQ _)) a.qO) (BK (fV.mpr hn) 3)
theorem At.fits(a:At V x n L G h C)(hn:n<=236):x.size+x.R.length<90000:=
 cM (eN (aL a.size (yQ 262 (gP hn))) (aL a.tV (dP hn 3))) (by decide)
theorem At.sz(a:At V x n L G h C)(hn:n<=236){s c:O}(hs:s<=x.size+x.R.length+c)(hc:c<=23):s<=262*(n+1+1):=
 aL hs (aL (eN (eN a.size (aL a.tV (dP hn 3))) hc) (dH (PO 262 (n+1)).symm))
theorem At.Oc(a:At V x n L G h C){s:O}(hs:s<=x.size+239):s<=262*(n+1+1):=
 aL hs (aL (eN a.size (by decide:239<=262)) (dH (PO 262 (n+1)).symm))
theorem At.next(a:At V x n L G h C)(hl:x.bH=u){hh:O}(g:∀lk,Lv V x lk C (dJ x.aA)->Lv V y lk C' (dJ x.aA)/\Gd x y)(dE:(y.R.length:J)=x.bF.bP+hh)(hk:kW x.bF.bP x y)(hz:y.size<=x.size+x.R.length+16)(hn:n<=236):At V y (n+1) L G (Z hh) C':=by
 obtain⟨lk,h1,h2,h3⟩:=a.aP;obtain⟨h4,h5⟩:=h2 hl;obtain⟨lv,gg⟩:=g lk ⟨h4,h5,a.aF⟩;have Hg:y.bF=x.bF:=by unfold X.bF;rw[gg.aA]
 have hy:y.bH=u:=gg.bH.trans hl;refine⟨⟨lk,?_,λ_=>⟨gg.aA▸lv.rq,lv.es⟩,λq=>mX (q.symm.trans hy)⟩,gg.cL.trans a.skip,λ_=>⟨hh,rfl,Hg▸dE⟩,λ_ i hi=>hk i (Hg▸hi) (a.below hl i (Hg▸hi)),lv.aF,?_,?_,gg.bV▸a.bV⟩
 ·rw[gg.aA,gg.aH]
  exact h1.up gg.aF
 rw[gg.aA];exact ft gg.qO a.qO;exact a.sz hn hz (by decide)
end
section
variable{i:aI}
theorem HR(hd:x.bH=aE)(hs:x.cL=0/\i.code≠5/\i.code≠11\/0<x.cL):x.tT i=u:=by
 unfold X.tT;rw[hd];rcases hs with⟨h0,h5,EP⟩|h
 ·have e5:(i.code==5)=aE:=by simpa using h5
  have HU:(i.code==11)=aE:=by simpa using EP
  rw[e5,HU];simp
 ·have:decide (x.cL>0)=u:=decide_eq_true h
  rw[this];rfl
noncomputable def X.sk(x:X)(k:J):X:= {x with cL:=k}
theorem Iv{r:Y aI}(hs:x.tT i=u)(hz:x.size+x.R.length<90000)(hf:0<=x.bV)(w:X.wp P r (x.skip i)):X.wp P (i::r) x:=by refine⟨⟨hz,hf,(λq=>by rw[hs]at q;cases q)⟩,λbB=>?_⟩;unfold X.take;rw[aZ hs];exact w
theorem dE'(b:iS code):∀{x:X} {P:X->Prop},x.bH=aE->0<=x.cL->x.size+x.R.length<90000->0<=x.bV->P x->X.wp P code x:=by
 induction b with
 | nil=>exact λ_ _ _ _ hp=>hp
 | dI _ _ i1 i2=>
  intro x P hd hs hz hf hp;rw[X.AL];exact i1 hd hs hz hf (i2 hd hs hz hf hp)
 | plain h2 h3 h4 h5 EP=>
  intro x P hd hs hz hf hp;refine Iv (HR hd (TN hs ⟨h5,EP⟩)) hz hf ?_;unfold X.skip X.UQ;rw[aR (by simp [h2,h3,h4]),aR EP];exact hp
 | @uH i a hi _ ih=>
  intro x P hd hs hz hf hp;refine Iv (HR hd (TN hs (by rcases hi with h|h|h<;>rw[h]<;>decide))) hz hf ?_;have e1:x.skip i=x.sk (x.cL+1):=by
   unfold X.skip X.UQ X.sk;rw[aZ (by rcases hi with h|h|h<;>simp [h])]
  rw[e1,X.AL];refine ih (x:=x.sk (x.cL+1)) hd (gB hs CB) hz hf ?_;refine Iv (HR hd (.inr (I1 hs))) hz hf ?_;have e2:(x.sk (x.cL+1)).skip .aS=x:=by
   show ({x with cL:=x.cL+1-1}: X)=x;rw[Dp]
  rw[e2];exact hp
 | @dG m a b _ _ i1 i2=>
  intro x P hd hs hz hf hp;refine Iv (HR hd (TN hs (show (4:J)≠5/\(4:J)≠11 by decide))) hz hf ?_;have e1:x.skip (.iff m)=x.sk (x.cL+1):=rfl;rw[e1,X.AL];refine i1 (x:=x.sk (x.cL+1)) hd (gB hs CB) hz hf ?_;refine Iv (HR hd (.inr (I1 hs))) hz hf ?_;have e3:(x.sk (x.cL+1)).skip .dG=x.sk (x.cL+1):=rfl;rw[e3,X.AL];refine i2 (x:=x.sk (x.cL+1)) hd (gB hs CB) hz hf ?_;refine Iv (HR hd (.inr (I1 hs))) hz hf ?_;have e2:(x.sk (x.cL+1)).skip .aS=x:=by
   show ({x with cL:=x.cL+1-1}: X)=x;rw[Dp]
  rw[e2];exact hp
end
def Fr.lR(f g:Fr):Prop:=g= {f with used:=g.used}
def iC(x y:X):Prop:=y.aA.length=x.aA.length/\∀(k:O) f,x.aA[k]?=Z f->∃g,y.aA[k]?=Z g/\f.lR g
theorem iC.refl(x:X):iC x x:=⟨rfl,λ_ f h=>⟨f,h,rfl⟩⟩
theorem iC.of_eq(h:y.aA=x.aA):iC x y:=⟨by rw[h],λ_ f hf=>⟨f,by rw[h];exact hf,rfl⟩⟩
theorem Fr.lR.trans{g h:Fr}(p:f.lR g)(q:g.lR h):f.lR h:=by unfold Fr.lR at *;rw[q,p]
theorem iC.trans(p:iC x y)(q:iC y z):iC x z:=⟨q.1.trans p.1,λk f hf=>by
 obtain⟨g,h1,h2⟩:=p.2 k f hf;obtain⟨g',h3,h4⟩:=q.2 k g h1;exact⟨g',h3,h2.trans h4⟩⟩
theorem hL'(f:Fr):f.lR f.eW:=by unfold Fr.lR Fr.eW;split<;>rfl
structure fP(x:X)(lk:Y As)(L:Y (O×aC))(G:Y Gf)(h:O):Prop where
 fr:gV x.aA x.aH lk x.aF L G
 es:Es x.R
 len:(x.R.length:J)=x.bF.bP+h
 below:∀i:O,(i:J)<x.bF.bP->x.R[i]?=Z (.pl (4+i))
 aF:(x.R.length:J)<=x.aF
section
variable{V:V2}{G:Y Gf}{lk:Y As}{W W':As}{C':BC}
theorem At.qD(a:At V x n L G (Z h) C)(hl:x.bH=u):fQ (λlk=>fP x lk L G h) (λlk=>Rq V x lk (Mt x.R C) (dJ x.aA)):=by obtain⟨lk,h1,h2,h3⟩:=a.aP;obtain⟨hh,e,h4⟩:=a.high hl;obtain⟨h5,h6⟩:=h2 hl;rw[<-aT e]at h4;exact⟨lk,⟨h1,h6,h4,a.below hl,a.aF⟩,h5⟩
theorem wV.lR{aF:J}{p:O×aC}{q:Gf}{g:Fr}(k:wV aH lk aF p q f el)(l:f.lR g):wV aH lk aF p q g el:=by unfold Fr.lR at l;rw[l];exact⟨k.loop,k.aD,k.bP,k.params,k.gS,k.gE,k.dY,k.le,k.fit,k.EI,k.dG⟩
theorem cp(s:iC x y)(h:1<=x.aA.length):x.bF.lR y.bF:=by
 have hx:x.aA[x.aA.length-1]?=Z x.bF:=by
  obtain⟨f,hf⟩:=tL (l:=x.aA) h;have:x.bF=f:=by unfold X.bF;rw[hf];rfl
  rw[this,<-CU];exact hf
 obtain⟨g,hg,hl⟩:=s.2 _ _ hx;have:y.bF=g:=by
  unfold X.bF;rw[CU,s.1,hg];rfl
 rw[this];exact hl
theorem NW(s:iC x y)(h:1<=x.aA.length):y.bF.bP=x.bF.bP:=by have:=cp s h;unfold Fr.lR at this;rw[this]
theorem NV(h:1<=x.aA.length):x.aA[x.aA.length-1]?=Z x.bF:=by
 obtain⟨f,hf⟩:=tL (l:=x.aA) h;have:x.bF=f:=by unfold X.bF;rw[hf];rfl
 rw[this,<-CU];exact hf
theorem Nb(s:iC x y){k:O}{g:Fr}(hg:y.aA[k]?=Z g):fQ (λf=>x.aA[k]?=Z f) (λf=>f.lR g):=by
 have hk:k<x.aA.length:=by rw[<-s.1];exact (iT.mp hg).1
 obtain⟨g',h1,h2⟩:=s.2 k _ (cS hk);rw[hg]at h1;cases h1;exact⟨_,cS hk,h2⟩
theorem gV.lR{aF:J}(k:gV x.aA aH lk aF L G)(s:iC x y):gV y.aA aH lk aF L G:=by
 refine⟨s.1.trans k.len,k.rF,λi p q g hp hq hg=>?_,λi j f g qK hf hg=>?_,λg hg=>?_⟩
 ·obtain⟨f,hf,hl⟩:=Nb s hg
  obtain⟨el,ok⟩:=k.ok i p q f hp hq hf;exact⟨el,ok.lR hl⟩
 ·obtain⟨f',sK,hl⟩:=Nb s hf
  obtain⟨g',Bq,Ao⟩:=Nb s hg;have:=k.cV i j f' g' qK sK Bq;unfold Fr.lR at hl Ao;rw[hl,Ao];exact this
 ·obtain⟨f,hf,hl⟩:=Nb s hg
  unfold Fr.lR at hl;rw[hl];exact k.zero f hf
set_option tactic.hygienic true in
theorem Fv: iC x (x.cC k):=by
 unfold X.cC;split
 ·rename_i f hf
  refine⟨by simp,λj g hj=>?_⟩;by_cases h:k=j
  ·subst h
   rw[hf]at hj;cases hj;exact⟨f.eW,jZ (iT.mp hf).1,hL' f⟩
  ·exact⟨g,by show (x.aA.set k f.eW)[j]?=_;rw[kL h];exact hj,rfl⟩
 ·exact .refl _
theorem Ft: A7 ((x.cC k).aP=x.aP) ((x.cC k).aH=x.aH) ((x.cC k).bV=x.bV) ((x.cC k).aF=x.aF) ((x.cC k).bH=x.bH) ((x.cC k).cL=x.cL) ((x.cC k).R=x.R):=by unfold X.cC;split<;>exact⟨rfl,rfl,rfl,rfl,rfl,rfl,rfl⟩
set_option tactic.hygienic true in
theorem N7{l:J}(h:dJ x.aA l):dJ (x.cC k).aA l:=by
 obtain⟨f,hf,h⟩:=h;obtain⟨j,hj⟩:=I4 hf;unfold X.cC;split
 ·rename_i g hg
  by_cases e:k=j
  ·subst e
   have e:g=f:=aT (hg.symm.trans hj);subst e;refine⟨g.eW,oF (jZ (iT.mp hg).1),?_⟩;unfold Fr.eW;split;exact h;exact h.imp (λq=>⟨rfl,q.2⟩) id
  ·exact⟨f,oF (by rw[kL e];exact hj),h⟩
 ·exact⟨f,hf,h⟩
theorem kN'(r:Rq V x lk W (dJ x.aA)):Rq V (x.cC k) lk W (dJ (x.cC k).aA):=by obtain⟨g1,g2,g3,g4,_⟩:=Ft (x:=x) (k:=k);have:=r.dJ (λl h=>N7 (k:=k) h);unfold Rq at *;rw[g1,g2,g3,g4];exact this
theorem fP.eW(v:fP x lk L G h)(hp:1<=L.length):fP (x.cC k) lk L G h:=by obtain⟨g1,g2,g3,g4,g5,g6,g7⟩:=Ft (x:=x) (k:=k);have hh:=NW (Fv (x:=x) (k:=k)) (by rw[v.fr.len];exact hp);exact⟨by rw[g2,g4];exact v.fr.lR Fv,g7▸v.es,by rw[g7,hh];exact v.len,λi hi=>by rw[hh]at hi;rw[g7];exact v.below i hi,by rw[g7,g4];exact v.aF⟩
def Gf.eW(g:Gf)(lp:aC):BC:=match lp with
 | true=>kk g.bb
 | false=>g.be
structure BU(x:X)(lk:Y As)(d aD:O)(f:Fr)(cT hb:O)(B:BC)(lp:aC):Prop where
 fK:x.aA[cO x d]?=Z f
 uR:f.aD=(aD:J)
 Rb:f.bP=(hb:J)
 oW:f.cT=Z (cT:J)
 F2:lk[cT]?=Z (Mh (hb+aD) B)
 fS:cW lp (∃q:O,x.aH[cT]?=Z (q:J)) (dJ (x.cC (cO x d)).aA cT)
 low:(hb:J)<=x.bF.bP
 kb:lp=u->∀vs pl t k,B vs pl t k->k<=2
theorem fP.EO(v:fP x lk L G h)(hd:d<L.length)(hL:L[L.length-1-d]?=Z (aD,lp))(hG:G[L.length-1-d]?=Z g):EC (λf cT=>BU x lk d aD f cT g.hb (g.eW lp) lp):=by
 have J6:cO x d=L.length-1-d:=by unfold cO;rw[v.fr.len]
 have cQ:L.length-1-d<x.aA.length:=v.fr.len.symm▸n1 hd;have hf:=cS cQ;obtain⟨el,ok⟩:=v.fr.ok _ _ _ _ hL hG hf;have vV:=NV (x:=x) (v.fr.len.symm▸CY hd);have EW:=v.fr.cV _ _ _ _ (v.fr.len.symm▸fW _ _) hf vV;generalize x.aA[L.length-1-d]=f at *;rw[ok.bP]at EW;by_cases hc:f.code=3
 ·obtain⟨bl,q,b1,b2,b3⟩:=ok.EI hc
  have Rj:lp=u:=ok.loop.mp hc;have hm:(aD:J)=g.pp:=by rw[<-ok.params,<-ok.aD];unfold Fr.aD;rw[aZ hc]
  rw[Rj];exact⟨f,bl,by rw[J6];exact hf,ok.aD,ok.bP,by unfold Fr.cT;rw[aZ hc];exact b1,by rw[pY hm];exact b2,⟨q,b3⟩,EW,λ_ _ _ _ _ z=>z.2⟩
 ·have Rj:lp=aE:=rS.mpr λe=>hc (ok.loop.mpr e)
  have hm:(aD:J)=g.rr:=by rw[<-ok.gS,<-ok.aD];unfold Fr.aD;rw[aR hc]
  rw[Rj];refine⟨f,el,by rw[J6];exact hf,ok.aD,ok.bP,by unfold Fr.cT;rw[aR hc];exact ok.gE,by rw[pY hm];exact ok.dY,⟨f.eW,?_,.inl ?_⟩,EW,λe=>nomatch e⟩;rw[J6];exact oF (Fu hf);unfold Fr.eW;rw[aR hc];exact⟨rfl,ok.gE⟩
theorem BU.depth(g:BU x lk d aD f cT hb B b)(hd:d<x.aA.length)(hm:aD<=x.R.length)(h2:aD<=2):uC x d:=by refine⟨hd,λf' sK=>?_⟩;rw[g.fK]at sK;cases sK;exact⟨⟨cT,g.oW⟩,by rw[g.uR];exact eQ _,by rw[g.uR];simpa using hm,by rw[g.uR];exact fV.mpr h2⟩
theorem BU.lb(g:BU x lk d aD f cT hb B lp):Lp x.aH (dJ (x.cC (cO x d)).aA) cT:=⟨eQ _,by
 have hp:=g.fS;cases lp with
 | true=>exact .inr hp
 | false=>exact .inl hp⟩
theorem BU.jm(g:BU x lk d aD f cT hb B lp){j:O}{s:Sv}{t:Tl}{k:O}(z:Mh (hb+aD) B s t (cW lp (k+1) k)):Jm x.aH lk (dJ (x.cC (cO x d)).aA) j cT s t k:=by
 have hl:lk[(cT:J).toNat]?=Z (Mh (hb+aD) B):=g.F2;have hp:=g.fS;cases lp with
 | true=>exact hp.elim λq hq=>.tI (eQ _) _ hl q hq (g.kb rfl _ _ _ _ z) z
 | false=>exact .uN (eQ _) _ hl (.inl hp) z
noncomputable def jF(hb aD:O)(vs:Y J):Y J:=vs.take hb++vs.drop (vs.length-aD)
theorem Rw{s':Sv}(hm:aD<=st.length)(EW:∀i:O,i<hb->st[i]?=Z (.pl (4+i))/\s' (4+i)=s (4+i))(hto:∀i:O,i<aD->s' (4+((hb+i:O):J))=Ev s (st[st.length-aD+i]?.getD (.num 0)))(nK:hb<=st.length):(X.eB (hb+aD)).map (Ev s')=jF hb aD (st.map (Ev s)):=by
 unfold jF;rw[cJ];refine yM λi=>?_;have cQ:(List.take hb (st.map (Ev s))).length=hb:=by rw[Dt,cJ];exact FC nK
 rw[fJ];by_cases h1:i<hb
 ·obtain⟨a,b⟩:=EW i h1
  rw[C8 (eP h1 (bU _ _)),gO (cQ.symm▸h1),VY h1,fJ,a];exact aW Z b
 ·have h1:=kU.mp h1
  obtain⟨r,rfl⟩:=za h1;rw[oP (cQ.symm▸h1),cQ,wQ,I3];rewrite [fJ];by_cases h2:r<aD
  ·have h3:st.length-aD+r<st.length:=G3 (yO h2 _) (jH hm)
   rw[C8 (yO h2 hb)];have:=hto r h2;rw[cS h3]at this ⊢;exact aW Z this
  ·rw[lF (by rw[zP];exact eR (kU.mp h2) hb),lF (aL (dH (jH hm).symm) (eR (kU.mp h2) _))];rfl
end
def rX(V:V2)(x:X)(n:O)(L:Y (O×aC))(G:Y Gf)(i:aI)(h':aG O)(C':BC):Prop:=x.D3 i/\∀bB,At V (x.take i bB) (n+1) L G h' C'/\iC x (x.take i bB)
section
variable{a b:O}
variable{V:V2}{G:Y Gf}{lk:Y As}{W W':As}{P:J->Prop}{C':BC}
theorem hS'{i:aI}(hl:x.bH=u):x.tT i=aE:=by unfold X.tT;rw[hl];rfl
theorem DK{i:aI}(hl:x.bH=u):x.take i bB=x.Ab i bB:=by unfold X.take;rw[aR (by rw[hS' hl];decide)]
theorem AB(a:At V x n L G ho C)(hl:x.bH=u)(hn:n<=236)(i:aI)(nH:x.Pl i)(y:X)(he:∀bB,x.Ab i bB=y){hh:O}(g:∀lk,Lv V x lk C (dJ x.aA)->Lv V y lk C' (dJ x.aA)/\Gd x y)(dE:(y.R.length:J)=x.bF.bP+hh)(hk:kW x.bF.bP x y)(hz:y.size<=x.size+x.R.length+16):rX V x n L G i (Z hh) C':=by refine⟨⟨a.fits hn,a.bV,λ_=>nH⟩,λbB=>?_⟩;rw[DK hl,he bB];obtain⟨lk,h1,h2,h3⟩:=a.aP;obtain⟨h4,h5⟩:=h2 hl;exact⟨a.next hl g dE hk hz hn,.of_eq (g lk ⟨h4,h5,a.aF⟩).2.aA⟩
theorem Lv.push(x1:Lv V x lk C P)(he:Ea x.R.length e)(hC:∀s t k,Mt x.R C s t k->C' (x.R.map (Ev s)++[Ev s e]) (kR s) t k):Lv V (x.push e) lk C' P/\Gd x (x.push e):=
 ⟨⟨Rq.push (x1.rq.lN λs t k z=>yV.mpr (hC s t k z)),x1.es.push he,Kp⟩,Gd.push x1.aF⟩
theorem Qx(v:fP x lk L G h)(hp:1<=L.length):0<=x.bF.bP:=by
 have vV:=NV (x:=x) (v.fr.len.symm▸hp);have cQ:L.length-1<L.length:=CX hp CW;have hg:L[x.aA.length-1]?=Z L[L.length-1]:=by rw[v.fr.len];exact cS cQ
 have hq:G[x.aA.length-1]?=Z (G[L.length-1]'(v.fr.rF.symm▸cQ)):=by rw[v.fr.len];exact cS (v.fr.rF.symm▸cQ)
 obtain⟨el,ok⟩:=v.fr.ok _ _ _ _ hg hq vV;rw[ok.bP];exact eQ _
theorem BE{s:O}(h1:a<=b+k)(h2:b<=d)(hk:k<=s+16):a<=d+s+16:=aL h1 (aL (eN h2 hk) (dH (gC d s 16).symm))
theorem T0: (x.push e).R.length=x.R.length+1:=by rw[show (x.push e).R=x.R++[e] from rfl,bA];rfl
theorem wL(v:fP x lk L G h)(hp:1<=L.length):∃e:O,x.bF.bP=e/\x.R.length=e+h:=by obtain⟨e,he⟩:=yH (Qx v hp);have q:=v.len;rw[he]at q;exact⟨e,he,pY q⟩
theorem xV{e:O}(hs:x.R.length=e+(k+1)):x.pop.R.length=e+k:=by rw[DV,hs];rfl
theorem CE{e:O}(he:m=e)(hs:n=e+(k+1)):m<n:=by rw[he,hs];exact eZ.mpr (PK (BP k))
theorem wM{e:O}(hs:n=e+(h+k)):k<=n:=hs▸aL (dL k h) (dL _ e)
theorem OA(hm:(x.R.length:J)<=x.aF):(x.pop.R.length:J)<=x.aF:=gB (fV.mpr (by rw[DV];exact fW _ _)) hm
theorem rn{s:O}(h1:a<=b+p+k)(h2:b<=d)(h3:p<=s)(hk:k<=16):a<=d+s+16:=aL h1 (eN (eN h2 h3) hk)
theorem DL(h:(a:J)<=m)(e:b+1<=a):(b:J)<m:=mZ (eZ.mpr e) h
theorem Up: (x.dX op e1 e2).size<=x.size+3/\(x.dX op e1 e2).R=x.R++[.pl (4+x.R.length)]:=by
 unfold X.dX;split;exact⟨by rw[X.tJ,X.Eh];exact nC _,rfl⟩
 ·obtain⟨s1,s2,s3,_⟩:=X.xZ (x:=x) (e:=e1) (h:=x.R.length)
  refine⟨by rw[X.tJ,X.Eh];exact dP s1 2,?_⟩;show (x.fT x.R.length e1).1.R++[.pl (4+(x.fT x.R.length e1).1.R.length)]=_;rw[s3]
theorem Tp: (x.eY op e).size<=x.size+3/\(x.eY op e).R=x.R++[.pl (4+x.R.length)]:=by obtain⟨s1,s2,s3,_⟩:=X.xZ (x:=x) (e:=e) (h:=x.R.length);unfold X.eY;dsimp only;refine⟨by rw[X.tJ,X.Eh];exact dP s1 2,?_⟩;show (x.fT x.R.length e).1.R++[.pl (4+(x.fT x.R.length e).1.R.length)]=_;rw[s3]
theorem Gd.pop(g:Gd x.pop y):Gd x y:=⟨g.aH,g.bV,g.aA,g.bH,g.cL,g.aF,g.qO⟩
theorem EN(v:J):bW dQ (v.fmod 4294967296):=by rw[Int.fmod_eq_emod_of_nonneg v (by decide)];exact⟨Int.emod_nonneg v (by decide),Int.emod_lt_of_pos v (by decide)⟩
theorem jv(h:bW 4 i):(kR s).getD i.toNat 0=s i:=by
 obtain⟨n,rfl⟩:=yH h.1;have hn:n<4:=eZ.mp h.2
 match n,hn with
 | 0,_|1,_|2,_|3,_=>rfl
theorem Lv.split(v:Lv V x lk C P)(h:1<=x.R.length):Rq V x.pop lk (Mt (x.pop.R++[x.cD]) C) P/\Es (x.pop.R++[x.cD]):=by have e:=Gb h;exact⟨by have:=v.rq;rw[e]at this;exact this,e▸v.es⟩
theorem UW(a:At V x n L G (Z h) C)(hl:x.bH=u)(hn:n<=236){v:J}(hC:∀vs pl t k,C vs pl t k->C' (vs++[v.fmod 4294967296]) pl t k):rX V x n L G (.const v) (Z (h+1)) C':=by obtain⟨zR,v0,_⟩:=a.qD hl;refine AB a hl hn (.const v) trivial (x.push (.num (v.fmod 4294967296))) (λ_=>rfl) (λlk lv=>lv.push (EN v) λs t k z=>hC _ _ _ _ z) ?_ (.dI rfl) (BE (k:=1) (dH X.IR) (cE _) (PH (by decide)));rw[T0,pX,v0.len,BJ];rfl
theorem qp(a:At V x n L G (Z h) C)(hl:x.bH=u)(hn:n<=236){i:J}(hi:bW 4 i)(hC:∀vs pl t k,C vs pl t k->C' (vs++[pl.getD i.toNat 0]) pl t k):rX V x n L G (.get i) (Z (h+1)) C':=by obtain⟨zR,v0,_⟩:=a.qD hl;refine AB a hl hn (.get i) trivial (x.push (.pl i)) (λ_=>rfl) (λlk lv=>lv.push (.inl hi) λs t k z=>by have:=hC _ _ _ _ z;rwa [jv hi]at this) ?_ (.dI rfl) (BE (k:=1) (dH X.IR) (cE _) (PH (by decide)));rw[T0,pX,v0.len,BJ];rfl
theorem qr(a:At V x n L G (Z (h+1)) C)(hl:x.bH=u)(hn:n<=236)(hp:1<=L.length){i:J}(hi:bW 4 i)(hC:∀vs v pl t k,C (vs++[v]) pl t k->C' vs (pl.set i.toNat v) t k):rX V x n L G (.set i) (Z h) C':=by
 obtain⟨zR,v0,_⟩:=a.qD hl;obtain⟨e,he,hs⟩:=wL v0 hp;have h1:=xV hs;have lZ:1<=x.R.length:=wM hs;refine AB a hl hn (.set i) lZ (x.pop.lM i x.cD) (λ_=>rfl) (λlk lv=>?_) ?_ ((kW.pop (CE he hs)).trans .lM) ?_
 ·obtain⟨r,k⟩:=lv.split lZ
  obtain⟨g1,g2,g3⟩:=ka (c:=x.pop) (C':=C') r k hi (DL lv.aF (h1.symm▸hs▸cE _)) λvs v pl t k _ _ z=>hC vs v pl t k z;exact⟨⟨g1,g2,by rw[X.A2.3,g3.aF];exact OA a.aF⟩,⟨g3.aH,g3.bV,g3.aA,g3.bH,g3.cL,Dq g3.aF.symm,g3.aF▸CB⟩⟩
 rw[X.A2.3,h1,he];rfl;exact rn (X.A2 (x:=x.pop) (i:=i) (e:=x.cD)).1 X.pE (by rw[DV];exact fW _ _) (by decide)
theorem pe'(h:∀n,e= .num n->v=n)(hs:s i=v):Ev s (K8 i e)=v:=by
 cases e with
 | num n=>exact (h n rfl).symm
 | pl a=>exact hs
theorem qs(a:At V x n L G (Z (h+1)) C)(hl:x.bH=u)(hn:n<=236)(hp:1<=L.length){i:J}(hi:bW 4 i)(hC:∀vs v pl t k,C (vs++[v]) pl t k->C' (vs++[v]) (pl.set i.toNat v) t k):rX V x n L G (.mF i) (Z (h+1)) C':=by
 obtain⟨zR,v0,_⟩:=a.qD hl;obtain⟨e,he,hs⟩:=wL v0 hp;have h1:=xV hs;have lZ:1<=x.R.length:=wM hs;refine AB a hl hn (.mF i) lZ ((x.pop.lM i x.cD).push (K8 i x.cD)) (λ_=>rfl) (λlk lv=>?_) ?_ (((kW.pop (CE he hs)).trans .lM).trans (.dI rfl)) ?_
 ·obtain⟨r,k⟩:=lv.split lZ
  obtain⟨g1,g2,g3⟩:=ka (c:=x.pop) (C':=λvs pl t k=>∃v,(∀n,x.cD= .num n->v=n)/\pl.getD i.toNat 0=v/\C' (vs++[v]) pl t k) r k hi (DL lv.aF (h1.symm▸hs▸cE _)) λvs v pl t k h4 hv z=>⟨v,hv,by rw[sW,jZ (h4.symm▸(yK hi.1).mpr hi.2)];rfl,hC vs v pl t k z⟩;have mo:((x.pop.lM i x.cD).R.length:J)<=(x.pop.lM i x.cD).aF:=by rw[X.A2.3,g3.aF];exact OA a.aF
  have r:=Lv.push (x:=x.pop.lM i x.cD) (e:=K8 i x.cD) (C':=C') ⟨g1,g2,mo⟩ (by
   have:=k _ _ kZ;cases ht:x.cD with
   | num n=>rw[ht]at this;exact this
   | pl s=>exact Or.inl hi) λs t j ⟨v,q1,q2,q3⟩=>by
    rw[pe' q1 ((jv hi).symm.trans q2)];exact q3
  exact⟨r.1,r.2.xB ⟨g3.aH,g3.bV,g3.aA,g3.aF,g3.bH,g3.cL⟩⟩
 ·rw[T0,X.A2.3,h1,he];rfl
 ·rw[X.IR]
  exact rn (k:=2) (gP (X.A2 (x:=x.pop) (i:=i) (e:=x.cD)).1) X.pE (by rw[DV];exact fW _ _) (by decide)
theorem ov'(a:At V x n L G (Z (h+1)) C)(hl:x.bH=u)(hn:n<=236)(hp:1<=L.length)(hC:∀vs v pl t k,C (vs++[v]) pl t k->C' vs pl t k):rX V x n L G .drop (Z h) C':=by
 obtain⟨zR,v0,_⟩:=a.qD hl;obtain⟨e,he,hs⟩:=wL v0 hp;refine AB a hl hn .drop (wM hs) (x.pop) (λ_=>rfl) (λlk lv=>?_) ?_ (.pop (CE he hs)) (BE (k:=0) X.pE (cE _) (nD _))
 ·obtain⟨r,k⟩:=lv.split (wM hs)
  exact⟨⟨r.lN λs t j z=>hC _ _ _ _ _ (yV.mp z),k.left,OA a.aF⟩,rfl,rfl,rfl,rfl,rfl,mY _,CB⟩
 ·rw[xV hs,he];rfl
theorem oA'(a:At V x n L G (Z h) C)(hl:x.bH=u)(hn:n<=236)(hC:∀vs pl t k,C vs pl t k->C' vs pl t k):rX V x n L G .pA (Z h) C':=by obtain⟨zR,v0,_⟩:=a.qD hl;exact AB a hl hn .pA trivial x (λ_=>rfl) (λlk lv=>⟨⟨lv.rq.lN λs t j z=>hC _ _ _ _ z,lv.es,lv.aF⟩,rfl,rfl,rfl,rfl,rfl,mY _,CB⟩) v0.len (.of_eq rfl) (BE (k:=0) (cE _) (cE _) (nD _))
theorem ox'(a:At V x n L G (Z (h+1)) C)(hl:x.bH=u)(hn:n<=236)(hp:1<=L.length)(hC:∀vs v pl t k,C (vs++[v]) pl t k->C' (vs++[uL v]) pl t k):rX V x n L G .jQ (Z (h+1)) C':=by
 obtain⟨zR,v0,_⟩:=a.qD hl;obtain⟨e,he,hs⟩:=wL v0 hp;have h1:=xV hs;refine AB a hl hn .jQ (wM hs) (x.pop.eY 69 x.cD) (λ_=>rfl) (λlk lv=>?_) ?_ ((kW.pop (CE he hs)).trans (.dI Tp.2)) (BE Tp.1 X.pE (aL (by decide:3<=16) (dL 16 _)))
 ·obtain⟨r,k⟩:=lv.split (wM hs)
  exact (jC' (c:=x.pop) r k (DL lv.aF (h1.symm▸hs▸cE _)) hC).imp id Gd.pop
 ·rw[Tp.2,bA,h1,he];rfl
theorem Lv.nM'(v:Lv V x lk C P)(h:2<=x.R.length):Rq V x.pop.pop lk (Mt (x.pop.pop.R++[x.pop.cD,x.cD]) C) P/\Es (x.pop.pop.R++[x.pop.cD,x.cD]):=by
 have h1:1<=x.pop.R.length:=by rw[DV];exact G2 h
 have e:x.R=x.pop.pop.R++[x.pop.cD,x.cD]:=by
  rw[Gb (kT h),Gb h1,fB];rfl
 exact⟨by have:=v.rq;rw[e]at this;exact this,e▸v.es⟩
theorem qt(a:At V x n L G (Z (h+2)) C)(hl:x.bH=u)(hn:n<=236)(hp:1<=L.length){op:J}(gX:op∈jL)(hC:∀vs aN v pl t k,C (vs++[aN,v]) pl t k->C' (vs++[kS op aN v]) pl t k):rX V x n L G (.dX op) (Z (h+1)) C':=by
 obtain⟨zR,v0,_⟩:=a.qD hl;obtain⟨e,he,hs⟩:=wL v0 hp;have h1:=xV hs;have h2:=xV h1;refine AB a hl hn (.dX op) ⟨wM hs,gX⟩ (x.pop.pop.dX op x.pop.cD x.cD) (λ_=>rfl) (λlk lv=>?_) ?_ (((kW.pop (CE he hs)).trans (.pop (CE he h1))).trans (.dI Up.2)) (BE Up.1 (aL X.pE X.pE) (aL (by decide:3<=16) (dL 16 _)))
 ·obtain⟨r,k⟩:=lv.nM' (wM hs)
  have hm:((x.pop.pop.R.length+1:O):J)<x.pop.pop.aF:=DL lv.aF (by rw[hs,h2];exact cE _);exact (pL' (c:=x.pop.pop) r k hm gX hC).imp id λg=>g.pop.pop
 ·rw[Up.2,bA,h2,he];rfl
theorem ou'(a:At V x n L G (Z (h+2)) C)(hl:x.bH=u)(hn:n<=236)(hp:1<=L.length)(hC:∀vs aN v pl t k,C (vs++[aN,v]) pl t k->C' (vs++[v,(aN+1).fmod dQ]) pl (t++[(aN,v)]) k):rX V x n L G .call (Z (h+2)) C':=by
 obtain⟨zR,v0,r0⟩:=a.qD hl;obtain⟨e,he,hs⟩:=wL v0 hp;have lZ:2<=x.R.length:=wM hs;obtain⟨_,_,c3,c4⟩:=XF ⟨r0,v0.es,v0.aF⟩ lZ hC;refine AB a hl hn .call lZ (x.call 0 2 2) (λ_=>rfl) (λlk lv=>?_) (by rw[c3];exact v0.len) (.to c4 (by rw[he,hs];exact fV.mpr (G2 (eR (dL 2 h) e)))) ?_
 ·obtain⟨c1,c2,_⟩:=XF lv lZ hC
  exact⟨c1,c2⟩
 ·show (X.AC _ 2).size<=_
  rw[X.OC.1,X.tJ];exact BE (k:=5) (dP (aL X.Jo X.AH) 3) (cE _) (PH (by decide))
end
section
variable{V:V2}{G:Y Gf}{lk:Y As}{W W':As}{P P':J->Prop}{C':BC}
theorem Lv.nN'(v:Lv V x lk C P)(h:3<=x.R.length):Rq V x.pop.pop.pop lk (Mt (x.pop.pop.pop.R++[x.pop.pop.cD,x.pop.cD,x.cD]) C) P/\Es (x.pop.pop.pop.R++[x.pop.pop.cD,x.pop.cD,x.cD]):=by
 have h1:2<=x.pop.R.length:=by rw[DV];exact G2 h
 have h2:1<=x.pop.pop.R.length:=by rw[DV];exact G2 h1
 have e:x.R=x.pop.pop.pop.R++[x.pop.pop.cD,x.pop.cD,x.cD]:=by
  rw[Gb (aL (by decide) h),Gb (kT h1),Gb h2,fB,fB];rfl
 exact⟨by have:=v.rq;rw[e]at this;exact this,e▸v.es⟩
theorem oC'(a:At V x n L G (Z (h+3)) C)(hl:x.bH=u)(hn:n<=236)(hp:1<=L.length)(hC:∀vs a b q pl t k,C (vs++[a,b,q]) pl t k->C' (vs++[if q≠0 then a else b]) pl t k):rX V x n L G .kI (Z (h+1)) C':=by
 obtain⟨zR,v0,r0⟩:=a.qD hl;obtain⟨e,he,hs⟩:=wL v0 hp;have h1:=xV hs;have h2:=xV h1;have h3:=xV h2;have lZ:3<=x.R.length:=wM hs;have hk:∀{k:O},k<=16->k<=x.R.length+16:=λh=>PH h;have cj:kW x.bF.bP x x.pop.pop:=(kW.pop (CE he hs)).trans (.pop (CE he h1));have kp3:kW x.bF.bP x x.pop.pop.pop:=cj.trans (.pop (CE he h2));have lQ:x.pop.pop.size<=x.size:=aL X.pE X.pE;have Zh:x.pop.pop.pop.size<=x.size:=aL X.pE lQ;cases ht:x.cD with
 | pl s=>
  obtain⟨_,_,c3,c4⟩:=oe ⟨r0,v0.es,v0.aF⟩ lZ hC;have ZS:x.R.length-3=e+h:=by rw[hs];rfl
  refine AB a hl hn .kI lZ ((((x.dB 3).jP 3).cH 258 (4+(x.R.length-3:O)) (.i 0) 0).iJ) (λ_=>by show x.kI x.cD=_;rw[ht];rfl) (λlk lv=>?_) (by rw[c3,ZS,he];rfl) (.to c4 (by rw[he,ZS];exact fV.mpr (bU _ _))) ?_
  ·obtain⟨c1,c2,_⟩:=oe lv lZ hC
   exact⟨c1,c2⟩
  ·rw[X.Eh,X.tJ]
   exact BE (k:=5) (dP (aL X.Jo X.AH) 2) (cE _) (hk (by decide))
 | num q=>
  have hm:∀{m:J},(x.R.length:J)<=m->((x.pop.pop.pop.R.length+1:O):J)<m:=λhm=>DL hm (by rw[hs,h3];exact nC _);have sn:∀lk,Lv V x lk C (dJ x.aA)->_:=λlk lv=>by
   obtain⟨r,k⟩:=lv.nN' lZ;rw[ht]at r k;exact mU' (c:=x.pop.pop.pop) r k (hm lv.aF) hC
  have e2:x.pop.pop.R=x.pop.pop.pop.R++[x.pop.pop.cD]:=Gb (wM h2);by_cases hq:q=0
  ·obtain⟨_,_,w,hw⟩:=(sn zR ⟨r0,v0.es,v0.aF⟩).2 hq
   refine AB a hl hn .kI lZ (x.pop.pop.pop.uY x.pop.cD) (λ_=>by show x.kI x.cD=_;rw[ht];exact aZ hq) (λlk lv=>?_) (by rw[hw,bA,h3,he];rfl) (kp3.trans (.dI hw)) ?_
   ·obtain⟨c1,c2,_⟩:=(sn lk lv).2 hq
    exact⟨c1,c2.pop.pop.pop⟩
   ·unfold X.uY
    by_cases hz:x.pop.cD= .pl (4+((x.pop.pop.pop.R.length:J)+1))
    ·rw[aZ hz,X.IR]
     exact BE (k:=2) (dP X.IS 1) Zh (hk (by decide))
    ·rw[aR hz,X.IR]
     exact BE (k:=1) (cE _) Zh (hk (by decide))
  ·refine AB a hl hn .kI lZ x.pop.pop (λ_=>by show x.kI x.cD=_;rw[ht];exact aR hq) (λlk lv=>⟨⟨?_,lv.es.pop.pop,?_⟩,rfl,rfl,rfl,rfl,rfl,mY _,CB⟩) (by rw[h2,he];rfl) cj (BE (k:=0) (cE _) lQ (nD _))
   rw[e2];exact (sn lk lv).1 hq;exact vE (DL lv.aF (by rw[hs,h2];exact nC _))
theorem kb'{s':Sv}(h:∀a:J,a<4->s' a=s a):kR s'=kR s:=by unfold kR;rw[h 0 (by decide),h 1 (by decide),h 2 (by decide),h 3 (by decide)]
theorem iD'{s':Sv}{t:Tl}(below:∀i:O,i<hb->st[i]?=Z (.pl (4+i)))(hm:aD<=st.length)(nK:hb<=st.length)(m:We st (st.length-aD) hb aD s s')(z:B (jF hb aD (st.map (Ev s))) (kR s) t k'):Mh (hb+aD) B s' t k':=by unfold Mh Mt;have h4:∀{a:J},a<4->a<4+(hb:J):=λh=>mZ h (wO (eQ _));rw[Rw hm (λi hi=>⟨below i hi,m.low _ (O5 (eZ.mpr hi) 4)⟩) m.to nK,kb' λa ha=>m.low a (h4 ha)];exact z
theorem tm(he:fh=hb)(hm:aD<=x.R.length)(h:x.Eb fh aD=u):∀i:O,i<aD->x.R[x.R.length-aD+i]?=Z (.pl (4+((hb+i:O):J))):=λi hi=>by unfold X.Eb at h;have h:=fY h;rw[<-I3,h,fJ,rT hi,he];rfl
theorem tn{t:Tl}(below:∀i:O,i<hb->x.R[i]?=Z (.pl (4+i)))(hm:aD<=x.R.length)(nK:hb<=x.R.length)(th:∀i:O,i<aD->x.R[x.R.length-aD+i]?=Z (.pl (4+((hb+i:O):J))))(z:B (jF hb aD (x.R.map (Ev s))) (kR s) t k'):Mh (hb+aD) B s t k':=by unfold Mh Mt;rw[Rw hm (λi hi=>⟨below i hi,rfl⟩) (λi hi=>by rw[th i hi];rfl) nK];exact z
theorem At.GU(v:fP x lk L G h)(r:Rq V x lk (Mt x.R C) (dJ x.aA))(hl:x.bH=u)(hs:x.cL=0)(hm:x.aF+x.aA.length<=n+3)(hz:x.size<=262*(n+1))(hf:0<=x.bV):At V x n L G (Z h) C:=
 ⟨⟨lk,v.fr,λ_=>⟨r,v.es⟩,λq=>mX (q.symm.trans hl)⟩,hs,λ_=>⟨h,rfl,v.len⟩,λ_=>v.below,v.aF,hm,hz,hf⟩
theorem At.lB(a:At V x n L G ho C)(hd:y.bH=aE)(s:iC x y)(sK:gV y.aA y.aH lk y.aF L G)(hr:Rq V y lk No (dJ y.aA))(hs:y.cL=x.cL)(nL:(y.R.length:J)<=x.R.length)(hm:y.aF=x.aF)(hz:y.size<=x.size+x.R.length+16)(hf:0<=y.bV)(hn:n<=236){h':aG O}{C':BC}: At V y (n+1) L G h' C':=by exact⟨⟨lk,sK,λq=>mX (hd.symm.trans q),λ_=>hr⟩,hs.trans a.skip,λq=>mX (hd.symm.trans q),λq=>mX (hd.symm.trans q),gB nL (gB a.aF (Dq hm.symm)),by rw[hm,s.1];exact fz a.qO,a.sz hn hz (by decide),hf⟩
theorem YY(g:BU x lk d aD f cT hb B lp):A3 (x.kE d=f) ((x.kE d).aD.toNat=aD) ((x.kE d).cT.getD 0=cT):=by
 have e:x.kE d=f:=by unfold X.kE;rw[g.fK];rfl
 exact⟨e,by rw[e,g.uR];exact Gv _,by rw[e,g.oW];rfl⟩
theorem fe'{l:J}: (((x.cC k).iF fh aD).cH 259 l (.i 0) 0).size<=x.size+aD+1:=by rw[X.tJ];exact gP (aL (X.zW (x:=x.cC k) (fh:=fh) (aD:=aD)).1 (dP (dH (X.sI (x:=x) (k:=k)).1) _))
structure Jp(x:X)(h aD hb:O):Prop where
 hm:aD<=x.R.length
 nK:hb<=x.R.length-aD
 below:∀i:O,i<hb->x.R[i]?=Z (.pl (4+i))
theorem fP.jp(v:fP x lk L G h)(g:BU x lk d aD f cT hb B lp)(hp:1<=L.length)(hm:aD<=h):Jp x h aD hb:=by obtain⟨e,he,hs⟩:=wL v hp;have EW:hb<=e:=fV.mp (he▸g.low);exact⟨hs▸aL hm (dL _ _),by rw[hs,Nat.add_sub_assoc hm];exact aL EW (bU _ _),λi hi=>v.below i (by rw[he];exact eZ.mpr (eP hi EW))⟩
theorem Se(v:fP x lk L G h)(r:Rq V x lk W P)(g:BU x lk d aD f cT hb B lp)(hp:1<=L.length)(hm:aD<=h)(hP:∀l,P l->P' l)(Yp:∀l,dJ (x.cC (cO x d)).aA l->P' l)(hW:∀s t k,W s t k->B (jF hb aD (x.R.map (Ev s))) (kR s) t (cW lp (k+1) k)):
  A3 (Rq V (((x.cC (cO x d)).iF f.bP aD).cH 259 cT (.i 0) 0) lk W' P') (jJ (x.cC (cO x d)) (((x.cC (cO x d)).iF f.bP aD).cH 259 cT (.i 0) 0)) ((((x.cC (cO x d)).iF f.bP aD).cH 259 cT (.i 0) 0).R=x.R):=by
 obtain⟨g1,g2,g3,g4,g5,g6,g7⟩:=Ft (x:=x) (k:=cO x d);have r1:Rq V (x.cC (cO x d)) lk W P:=by unfold Rq at *;rw[g1,g2,g3,g4];exact r
 have jp:=v.jp g hp hm;obtain⟨m2,m4⟩:=eu (b:=(x.cC (cO x d)).R.length-aD) (fh:=hb) r1 (g7▸v.es) (by rw[g7];exact jp.nK) (by rw[g7,g4];exact v.aF) aD (by rw[g7];exact dH (jH jp.hm));rw[g.Rb];have wH:jJ (x.cC (cO x d)) ((x.cC (cO x d)).iF hb aD):=m4;have m2':=Rq.dJ (c:=(x.cC (cO x d)).iF hb aD) m2 hP;refine⟨m2'.cH (.pP cT) rfl trivial (w:=λs' t k ⟨s,z,m⟩=>?_) (by
  rw[wH.aH,g2];exact⟨g.lb.1,g.lb.2.imp (Yp _) id⟩),wH.trans ⟨rfl,rfl,rfl,rfl,rfl,rfl⟩,?_⟩
 ·rw[g7]at m
  rw[wH.aH,g2];exact (g.jm (j:=_) (iD' jp.below jp.hm (aL jp.nK (fW _ _)) m (hW s t k z))).imp (λl _=>JE (Yp l)) (λ_ q hq=>⟨q,hq⟩) λ_ _ z=>z
 ·show (X.iF _ _ _).R=_
  rw[X.zW.3,g7]
end
section
variable{V:V2}{G:Y Gf}{lk:Y As}{W W':As}{P P':J->Prop}{C':BC}
theorem rZ{l:Y α}{i:O}{v b:α}(h:l[i]?=Z v):(l++[b])[i]?=Z v:=by rw[gO (kF h)];exact h
theorem gV.cY{aF a:J}{K:As}(k:gV aA aH lk aF L G):gV aA (aH++[a]) (lk++[K]) aF L G:=by
 refine⟨k.len,k.rF,λi p g f hp hg hf=>?_,k.cV,k.zero⟩;obtain⟨el,ok⟩:=k.ok i p g f hp hg hf;exact⟨el,{ok with
  dY:=rZ ok.dY
  EI:=λhc=>by
   obtain⟨bl,q,b1,b2,b3⟩:=ok.EI hc;exact⟨bl,q,b1,rZ b2,rZ b3⟩
  dG:=λl hl=>by
   obtain⟨e,e1,e2⟩:=ok.dG l hl;exact⟨e,e1,rZ e2⟩}⟩
theorem gV.fS{aF:J}(k:gV aA aH lk aF L G):gV aA (aH.set l p) lk aF L G:=by
 refine⟨k.len,k.rF,λi pq g f hp hg hf=>?_,k.cV,k.zero⟩;obtain⟨el,ok⟩:=k.ok i pq g f hp hg hf;exact⟨el,{ok with
  EI:=λhc=>by
   obtain⟨bl,q,b1,b2,b3⟩:=ok.EI hc;by_cases e:l=bl;exact⟨bl,p,b1,b2,e▸jZ (e▸kF b3)⟩
   ·exact⟨bl,q,b1,b2,by rw[kL e];exact b3⟩}⟩
theorem fP.cY(v:fP x lk L G h){K:As}: fP x.cY (lk++[K]) L G h:=⟨v.fr.cY,v.es,v.len,v.below,v.aF⟩
theorem fP.dS(v:fP x lk L G h){l:O}: fP (x.dS l) lk L G h:=⟨v.fr.fS,v.es,v.len,v.below,v.aF⟩
theorem fP.same(v:fP x lk L G h)(s:jJ x z)(h4:z.R=x.R):fP z lk L G h:=by
 have hl:z.bF=x.bF:=by unfold X.bF;rw[s.aA]
 exact⟨by rw[s.aH,s.aA,s.aF];exact v.fr,h4▸v.es,by rw[h4,hl];exact v.len,λi hi=>by rw[hl]at hi;rw[h4];exact v.below i hi,by rw[h4,s.aF];exact v.aF⟩
theorem ot'(a:At V x n L G (Z h) C)(hl:x.bH=u)(hn:n<=236){d aD:O}{lp:aC}{g:Gf}(hd:d<L.length)(hL:L[L.length-1-d]?=Z (aD,lp))(hG:G[L.length-1-d]?=Z g)(hm:aD<=h)(h2:aD<=2)(hC:∀vs pl t k,C vs pl t k->g.eW lp (jF g.hb aD vs) pl t (cW lp (k+1) k)):rX V x n L G (.br d) aB C':=by
 obtain⟨lk,v,r⟩:=a.qD hl;have hp:1<=L.length:=CY hd;obtain⟨f,cT,gl⟩:=v.EO hd hL hG;refine⟨⟨a.fits hn,a.bV,λ_=>gl.depth (v.fr.len.symm▸hd) (v.jp gl hp hm).hm h2⟩,λbB=>?_⟩;rw[DK hl];show At V (x.MG d) _ _ _ _ _/\iC x (x.MG d);unfold X.MG X.NZ;obtain⟨e1,e2,e3⟩:=YY gl;rw[e2,e3,e1];obtain⟨r1,s1,st⟩:=Se (W':=No) v r gl hp hm (λ_ h=>N7 h) (λ_ h=>h) λs t k z=>hC _ _ _ _ z;obtain⟨g1,g2,g3,g4,g5,g6,g7⟩:=Ft (x:=x) (k:=cO x d);have eC:=fe' (x:=x) (k:=cO x d) (aD:=aD) (fh:=f.bP) (l:=cT);generalize ((x.cC (cO x d)).iF f.bP aD).cH 259 cT (.i 0) 0=z at *;have Ie:iC x z:=Fv.trans (.of_eq s1.aA);refine⟨a.lB (y:= {z with bH:=aE}) (lk:=lk) rfl Ie ?_ ?_ (s1.cL.trans g6) (by rw[st];exact mY _) (s1.aF.trans g4) (aL eC (eN (eR (v.jp gl hp hm).hm _) (by decide))) (by show 0<=z.bV;rw[s1.bV,g3];exact a.bV) hn,Ie⟩
 ·show gV z.aA z.aH lk z.aF L G
  rw[s1.aH,s1.aF,g2,g4];exact v.fr.lR Ie
 ·show Rq V z lk No (dJ z.aA)
  rw[s1.aA];exact r1
theorem oF'(a:At V x n L G (Z h) C)(hl:x.bH=u)(hn:n<=236)(hC:∀vs pl t k,C vs pl t k->V.H aB t):rX V x n L G .qS aB C':=by obtain⟨lk,v,r⟩:=a.qD hl;refine⟨⟨a.fits hn,a.bV,λ_=>trivial⟩,λbB=>?_⟩;rw[DK hl];exact⟨a.lB (y:= {x.cH 0 0 (.i 0) 0 with bH:=aE}) (lk:=lk) rfl (.of_eq rfl) v.fr (r.cH .Ew rfl trivial trivial λs t k z=>hC _ _ _ _ z) rfl (mY _) rfl (by show (x.cH 0 0 (.i 0) 0).size<=_;rw[X.tJ];exact eN (bU _ _) (by decide)) a.bV hn,.of_eq rfl⟩
theorem oB'(a:At V x n L G (Z h) C)(hl:x.bH=u)(hn:n<=236)(hp:1<=L.length)(hm:2<=h)(hC:∀vs pl t k,C vs pl t k->V.H (Z ((jF 0 2 vs).getD 0 0,(jF 0 2 vs).getD 1 0)) t):rX V x n L G .ret aB C':=by
 obtain⟨lk,v,r⟩:=a.qD hl;obtain⟨e,he,hs⟩:=wL v hp;have RW:1<=x.aA.length:=v.fr.len.symm▸hp;have h2:2<=x.R.length:=hs▸aL hm (dL _ _);have hfz:(x.aA[0]?.getD X.Cz).bP=0:=by rw[cS RW];exact v.fr.zero _ (cS RW)
 refine⟨⟨a.fits hn,a.bV,λ_=>⟨h2,RW⟩⟩,λbB=>?_⟩;rw[DK hl];show At V (x.ret _) _ _ _ _ _/\iC x (x.ret _);rw[hfz];unfold X.ret;obtain⟨m2,m4⟩:=eu (b:=x.R.length-2) (fh:=0) r v.es (nD _) v.aF 2 (dH (jH h2));have wH:jJ x (x.iF 0 2):=m4;have hi:∀i:O,i<2->bW (4+(x.iF 0 2).aF) (4+(i:O)):=λi hi=>vX (by rw[wH.aF];exact DL v.aF (aL hi h2));have r1:Rq V ((x.iF 0 2).cH 267 4 (.i 2) 0) lk No (dJ x.aA):=Rq.cH (c:=x.iF 0 2) m2 .ret rfl ⟨hi 0 (by decide),hi 1 (by decide)⟩ trivial λs' t k ⟨s,z,m⟩=>by
  have q:=hC _ _ _ _ z;rw[<-Rw (s':=s') (hb:=0) h2 (λi hi=>absurd hi (Vn _)) m.to (nD _)]at q;exact q
 have eC:=(X.zW (x:=x) (fh:=0) (aD:=2));refine⟨a.lB (y:= { (x.iF 0 2).cH 267 4 (.i 2) 0 with bH:=aE}) (lk:=lk) rfl (.of_eq wH.aA) ?_ ?_ wH.cL (by show ((x.iF 0 2).R.length:J)<=_;rw[eC.3];exact mY _) wH.aF (by show ((x.iF 0 2).cH 267 4 (.i 2) 0).size<=_;rw[X.tJ];exact aL (gP eC.1) (eN (bU _ _) (by decide:2+1<=16))) (by show 0<=(x.iF 0 2).bV;rw[wH.bV];exact a.bV) hn,.of_eq wH.aA⟩
 ·show gV (x.iF 0 2).aA (x.iF 0 2).aH lk (x.iF 0 2).aF L G
  rw[wH.aA,wH.aH,wH.aF];exact v.fr
 ·show Rq V ((x.iF 0 2).cH 267 4 (.i 2) 0) lk No (dJ (x.iF 0 2).aA)
  rw[wH.aA];exact r1
theorem fc'(f:Fr):f.eW.eW=f.eW:=by
 unfold Fr.eW;by_cases h:f.code=3;rw[aZ h,aZ h]
 ·rw[aR h]
  exact aR h
theorem fd'(f:Fr):f.eW.cT=f.cT:=by unfold Fr.eW;split;rfl;unfold Fr.cT;rfl
theorem eY'(hk:x.aA[k]?=Z f.eW):x.cC k=x:=by
 obtain⟨cQ,he⟩:=iT.mp hk;unfold X.cC;rw[hk];dsimp only;have:x.aA.set k f.eW.eW=x.aA:=by
  rw[fc',<-he];exact List.set_getElem_self cQ
 rw[this]
theorem fP.pop(v:fP x lk L G (h+1))(hp:1<=L.length):fP x.pop lk L G h:=by obtain⟨e,he,hs⟩:=wL v hp;refine⟨v.fr,v.es.pop,?_,λi hi=>kW.pop (CE he hs) i hi (v.below i hi),OA v.aF⟩;show (x.pop.R.length:J)=x.bF.bP+h;rw[xV hs,he];rfl
end
section
variable{V:V2}{G:Y Gf}{lk:Y As}{W W':As}{P P':J->Prop}{C':BC}
theorem jx:jJ x x.pop:=⟨rfl,rfl,rfl,rfl,rfl,rfl⟩
theorem tM{a b m:O}(h:a<=262*(b+1))(hm:m<=262):a+m<=262*(b+1+1):=by rw[Nat.mul_add 262 (b+1) 1];exact eN h hm
theorem XY(v:fP x lk L G (h+1))(r:Rq V x lk (Mt x.R C) (dJ x.aA))(hp:1<=L.length):A5 (rA (λf=>uG (4+(x.pop.dC x.cD).1.aF) (x.pop.dC x.cD).2 f) (λf=>Rq V (x.pop.dC x.cD).1 lk (wW (x.pop.dC x.cD).1.R f C) (dJ (x.pop.dC x.cD).1.aA)) (λf=>Kf (4+((x.pop.dC x.cD).1.R.length:O)) f)) (fP (x.pop.dC x.cD).1 lk L G h) (jJ x (x.pop.dC x.cD).1) ((x.pop.dC x.cD).1.R=x.pop.R) ((x.pop.dC x.cD).1.size<=x.size):=by obtain⟨e,he,hs⟩:=wL v hp;obtain⟨r1,k1⟩:=Lv.split ⟨r,v.es,v.aF⟩ (wM hs);obtain⟨f,t,r2,kf⟩:=dx' (c:=x.pop) (e:=x.cD) r1 k1 (DL v.aF (by rw[xV hs,hs];exact cE _));obtain⟨s,st⟩:=dy' (c:=x.pop) (e:=x.cD);refine⟨⟨f,?_,?_,by rw[st];exact kf⟩,(v.pop hp).same s st,jx.trans s,st,aL (X.Fj (x:=x.pop) (e:=x.cD)).1 X.pE⟩;rw[s.aF];exact t;rw[s.aA,st];exact r2
theorem qo(a:At V x n L G (Z (h+1)) C)(hl:x.bH=u)(hn:n<=236){d aD:O}{lp:aC}{g:Gf}(hd:d<L.length)(hL:L[L.length-1-d]?=Z (aD,lp))(hG:G[L.length-1-d]?=Z g)(hm:aD<=h)(h2:aD<=2)(sJ:∀vs v pl t k,C (vs++[v]) pl t k->v≠0->g.eW lp (jF g.hb aD vs) pl t (cW lp (k+1) k))(uO:∀vs v pl t k,C (vs++[v]) pl t k->v=0->C' vs pl t k):rX V x n L G (.gZ d) (Z h) C':=by
 obtain⟨lk,v0,r0⟩:=a.qD hl;have hp:1<=L.length:=CY hd;obtain⟨⟨fv,t,r,_⟩,v,sx,st,eC⟩:=XY v0 r0 hp;have gc':x.R.length=x.pop.R.length+1:=by
  obtain⟨e,he,hs⟩:=wL v0 hp;rw[xV hs,hs];rfl
 refine⟨⟨a.fits hn,a.bV,λ_=>⟨gc'▸BP _,?_,t.GJ⟩⟩,λbB=>?_⟩
 ·have sp:=v0.pop hp
  obtain⟨f,cT,gl⟩:=sp.EO hd hL hG;exact gl.depth (sp.fr.len.symm▸hd) (sp.jp gl hp hm).hm h2
 rw[DK hl];show At V ((x.pop.dC x.cD).1.Fg d (x.pop.dC x.cD).2) _ _ _ _ _/\iC x ((x.pop.dC x.cD).1.Fg d (x.pop.dC x.cD).2);generalize (x.pop.dC x.cD).2=eJ at *;generalize (x.pop.dC x.cD).1=y at *;obtain⟨f,cT,gl⟩:=v.EO hd hL hG;obtain⟨e1,e2,e3⟩:=YY gl;unfold X.Fg;rw[e2,e3,e1];obtain⟨g1,g2,g3,g4,g5,g6,g7⟩:=Ft (x:=y) (k:=cO y d);have ru:=kN' (k:=cO y d) r;have vu:=v.eW (k:=cO y d) hp;have ET:=Fu gl.fK;have su:iC x (y.cC (cO y d)):=(iC.of_eq sx.aA).trans Fv;have af:(y.cC (cO y d)).size<=x.size:=aL (dH (X.sI (x:=y) (k:=cO y d)).1) eC;have jp:=v.jp gl hp hm;have ZM:(y.cC (cO y d)).bH=u:=g5.trans (sx.bH.trans hl);have Zz:(y.cC (cO y d)).cL=0:=g6.trans (sx.cL.trans a.skip);have Hi:(y.cC (cO y d)).aF=x.aF:=g4.trans sx.aF;have fq':(y.cC (cO y d)).bV=x.bV:=g3.trans sx.bV;have t':uG (4+(y.cC (cO y d)).aF) eJ fv:=g4.symm▸t;have Oc:=a.size;have dw:=a.qO;have yes:∀s t k,wW y.R fv C s t k->fv s≠0->g.eW lp (jF g.hb aD (y.R.map (Ev s))) (kR s) t (cW lp (k+1) k):=λs t k z hq=>sJ _ _ _ _ _ z hq;have no:∀s t k,wW y.R fv C s t k->fv s=0->Mt y.R C' s t k:=λs t k z hq=>uO _ _ _ _ _ z hq;unfold X.gZ;dsimp only;generalize hu:y.cC (cO y d)=aN at *;by_cases GA:aN.Eb f.bP aD=u
 ·rw[aZ GA]
  have th:=tm (x:=aN) gl.Rb (by rw[g7];exact jp.hm) GA;rw[g7]at th;have rb:=QJ (c:=aN) (b:=u) (l:=cT) (W':=Mt aN.R C') ru t' (λs t k z=>by
   by_cases hq:fv s=0;rw[FJ (JM hq)];exact g7.symm▸no s t k z hq
   ·rw[decide_eq_true hq,g2]
    have:=gl.jm (j:=aN.aP.length) (tn jp.below jp.hm (aL jp.nK (fW _ _)) th (yes s t k z hq));rw[hu]at this;exact this) (by
   have:=gl.lb;rw[hu]at this;rw[g2];exact this)
  obtain⟨b1,b2⟩:=QK (c:=aN) (op:=eJ.1) (n:=eJ.2.1.n) (d:=eJ.2.2) (s:=u) (l:=cT);have Bm:=(X.EJ (x:=aN) (op:=eJ.1) (n:=eJ.2.1.n) (c:=eJ.2.2) (s:=u) (l:=cT)).1;generalize aN.mO eJ.1 eJ.2.1.n eJ.2.2 u cT=z at *;have sz:iC x z:=su.trans (.of_eq b1.aA);exact⟨At.GU (vu.same b1 b2) (by rw[b1.aA,b2];exact rb) (b1.bH.trans ZM) (b1.cL.trans Zz) (by rw[b1.aF,Hi,sz.1];exact gB dw (BK (fV.mpr (nC n)) 3)) (aL Bm (tM (aL af Oc) (by decide))) (by rw[b1.bV,fq'];exact a.bV),sz⟩
 ·rw[aR GA]
  have rl:Rq V aN.cY (lk++[Mt y.R C']) (wW y.R fv C) (λl=>dJ aN.aA l\/l=aN.aH.length):=(ru.dJ (λl h=>Or.inl h)).cY _;have EU:lk.length=aN.aH.length:=ru.elim λ_ k=>k.pS;have vV:(lk++[Mt y.R C'])[aN.aH.length]?=Z (Mt y.R C'):=by rw[<-EU,kZ]
  have rb:=QJ (c:=aN.cY) (b:=aE) (l:=aN.aH.length) (W':=λs t k=>wW y.R fv C s t k/\fv s≠0) rl t' (λs t k z=>by
   by_cases hq:fv s=0
   ·rw[FJ (JM hq)]
    exact .uN (eQ _) _ vV (.inl (.inr rfl)) (no s t k z hq)
   ·rw[decide_eq_true hq];exact⟨z,hq⟩) ⟨eQ _,.inl (.inr rfl)⟩
  obtain⟨b1,b2⟩:=QK (c:=aN.cY) (op:=eJ.1) (n:=eJ.2.1.n) (d:=eJ.2.2) (s:=aE) (l:=aN.aH.length);have Bm:=(X.EJ (x:=aN.cY) (op:=eJ.1) (n:=eJ.2.1.n) (c:=eJ.2.2) (s:=aE) (l:=aN.aH.length)).1;rw[X.Ec]at Bm;generalize hz:aN.cY.mO eJ.1 eJ.2.1.n eJ.2.2 aE aN.aH.length=z at *;have sz:fP z (lk++[Mt y.R C']) L G h:=vu.cY.same b1 b2;have vo:z.R=y.R:=b2.trans g7;have J6:cO z d=cO y d:=by
   unfold cO;rw[show z.aA.length=y.aA.length by rw[b1.aA];show aN.aA.length=_;rw[<-hu];exact Fv.1]
  have ae:z.aA[cO z d]?=Z f.eW:=by rw[J6,b1.aA];exact ET
  have Y9:=eY' ae;obtain⟨f',gY',g'⟩:=sz.EO hd hL hG;have ef:f'=f.eW:=aT (g'.fK.symm.trans ae);have eh:f'.bP=f.bP:=by rw[ef];exact Fr.HZ.2
  have el:(gY':J)=cT:=by
   have h1:=g'.oW;rw[ef,fd',gl.oW]at h1;exact (aT h1).symm
  obtain⟨rj,sj,Ii⟩:=Se (W':=Mt y.R C') (P':=λl=>dJ aN.aA l\/l=aN.aH.length) sz rb g' hp hm (λ_ h=>h) (λl Zl=>by
   rw[Y9,b1.aA]at Zl;exact .inl Zl) λs t k z=>vo.symm▸yes s t k z.1 z.2
  rw[Y9,eh,el]at rj sj Ii;have gg':((z.iF f.bP aD).cH 259 cT (.i 0) 0).size<=z.size+aD+1:=by
   rw[X.tJ];exact gP (X.zW (x:=z) (fh:=f.bP) (aD:=aD)).1
  generalize (z.iF f.bP aD).cH 259 cT (.i 0) 0=w at *;have Hz:w.aA=aN.aA:=sj.aA.trans b1.aA;have rp:Rq V (w.dS aN.aH.length) (lk++[Mt y.R C']) (Mt y.R C') (dJ aN.aA):=rj.dS vV (λi hi=>hi);have wst:w.R=y.R:=Ii.trans vo;have sw:fP (w.dS aN.aH.length) (lk++[Mt y.R C']) L G h:=(sz.same (z:=w) sj Ii).dS;have Ie:iC x (w.dS aN.aH.length):=su.trans (.of_eq Hz);have KH:(w.dS aN.aH.length).aF=x.aF:=by
   show w.aF=_;rw[sj.aF,b1.aF];exact Hi
  refine⟨At.GU sw (by show Rq V _ _ (Mt w.R C') (dJ w.aA);rw[Hz,wst];exact rp) ?_ ?_ ?_ ?_ (eQ _),Ie⟩
  ·show w.bH=u
   rw[sj.bH,b1.bH];exact ZM
  ·show w.cL=0
   rw[sj.cL,b1.cL];exact Zz
  ·rw[KH,Ie.1];exact gB dw (BK (fV.mpr (nC n)) 3)
  ·rw[X.OB]
   exact aL gg' (aL (dP (eN Bm h2) 1) (tM (m:=5) (aL af Oc) (by decide)))
end
noncomputable def g0:Gf:=⟨λ_ _ _ _=>False,λ_ _ _ _=>False,λ_ _ _ _=>False,0,0,0⟩
def Aw(L:Y (O×aC))(G:Y Gf)(d:O):BC:=λvs pl t k=>(G[L.length-1-d]?.getD g0).be (jF (G[L.length-1-d]?.getD g0).hb (L[L.length-1-d]?.getD (0,aE)).1 vs) pl t k
noncomputable def Dg(v:J)(n:O):O:=if v<(n:J)-1 then v.toNat else n-1
theorem Ui(h:1<=n):Dg v n<n:=by
 unfold Dg;by_cases q:v<(n:J)-1;rw[aZ q];exact (Int.le_total 0 v).elim (λh0=>(yK h0).mpr (mZ q (VO _ (by decide)))) λh0=>by rw[Int.toNat_of_nonpos h0];exact h
 ·rw[aR q];exact CX h CW
section
variable{V:V2}{G:Y Gf}{lk:Y As}{W W':As}{P P':J->Prop}{C':BC}
theorem cf(hL:L[L.length-1-d]?=Z (aD,lp))(hG:G[L.length-1-d]?=Z g){vs pl:Y J}{t:Tl}{k:O}: Aw L G d vs pl t k=g.be (jF g.hb aD vs) pl t k:=by unfold Aw;rw[hL,hG];rfl
def xW(aA:Y Fr)(dW:Y (J×J))(l:J):Prop:=dJ aA l\/ ∃p∈dW,p.2=l
structure EA(V:V2)(t:TS)(lk:Y As)(W:As)(L:Y (O×aC))(G:Y Gf)(h:O)(c:X)(st:Y aQ)(ds:Y O):Prop where
 Gm:fP t.x lk L G h
 rq:Rq V t.x lk W (xW t.x.aA t.dW)
 tV:t.x.R=st
 rF:t.iD.length=ds.length
 iD:∀(i:O) l d,t.iD[i]?=Z l->ds[i]?=Z d->∀j s q k,Aw L G d (st.map (Ev s)) (kR s) q k->Jm t.x.aH lk (xW t.x.aA t.dW) j l s q k
 Fs:∀l∈t.iD,Lp t.x.aH (xW t.x.aA t.dW) l
 dW:∀p∈t.dW,rA (λd:O=>p.1=(d:J)) (λ_=>0<=p.2) (λd=>lk[p.2.toNat]?=Z (Mt st (Aw L G d)))
 fr:iC c t.x
 same:A4 (t.x.bV=c.bV) (t.x.aF=c.aF) (t.x.bH=c.bH) (t.x.cL=c.cL)
theorem hV'{l:Y (J×J)}{k:J}(h:nV l k=Z v):(k,v)∈l:=by unfold nV at h;obtain⟨p,hp,e⟩:=Ca.mp h;have e0:=yc hp;have e1:p.1=k:=eq_of_beq e0;rw[<-e,<-e1];exact yn hp
theorem UU{l:Y α}{i:O}{v w:α}(h:(l++[w])[i]?=Z v):l[i]?=Z v\/(i=l.length/\v=w):=by
 by_cases hi:i<l.length;rw[gO hi]at h;exact .inl h
 ·have e1:i=l.length:=BM (BN (by have:=kF h;rwa [bA]at this)) (kU.mp hi)
  rw[e1,kZ]at h;exact .inr ⟨e1,(aT h).symm⟩
theorem EA.step{t:TS}(v:EA V t lk W L G h c st ds){d aD:O}{g:Gf}(hd:d<L.length)(hL:L[L.length-1-d]?=Z (aD,aE))(hG:G[L.length-1-d]?=Z g)(hm:aD<=h):∃fO,EA V (t.step d) fO W L G h c st (ds++[d]):=by
 obtain⟨f,cT,gl⟩:=v.Gm.EO hd hL hG;have hp:1<=L.length:=CY hd;obtain⟨g1,g2,g3,g4,g5,g6,g7⟩:=Ft (x:=t.x) (k:=cO t.x d);have sg:=v.Gm.eW (k:=cO t.x d) hp;have jp:=v.Gm.jp gl hp hm;have rg:∀{Q:J->Prop},(∀l,xW t.x.aA t.dW l->Q l)->Rq V (t.x.cC (cO t.x d)) lk W Q:=λhQ=>by
  have:=v.rq.dJ hQ;unfold Rq at *;rw[g1,g2,g3,g4];exact this
 have up:∀l,xW t.x.aA t.dW l->xW (t.x.cC (cO t.x d)).aA t.dW l:=λl q=>q.imp N7 id;have Cy:iC c (t.x.cC (cO t.x d)):=v.fr.trans Fv;have sm:A4 ((t.x.cC (cO t.x d)).bV=c.bV) ((t.x.cC (cO t.x d)).aF=c.aF) ((t.x.cC (cO t.x d)).bH=c.bH) ((t.x.cC (cO t.x d)).cL=c.cL):=⟨g3.trans v.same.1,g4.trans v.same.2,g5.trans v.same.3,g6.trans v.same.4⟩;have Q4:∀{l:J},(t.iD++[l]).length=(ds++[d]).length:=λ{l}=>by rw[bA,bA,v.rF];rfl
 have UX:=g7.trans v.tV;have sP:∀{l:J} (i:O) a d',(t.iD++[l])[i]?=Z a->(ds++[d])[i]?=Z d'->(t.iD[i]?=Z a/\ds[i]?=Z d')\/(a=l/\d'=d):=λi a d' h1 h2=>by
  rcases UU h1 with q1|⟨q1,q2⟩
  ·rcases UU h2 with q3|⟨q3,q4⟩
   exact .inl ⟨q1,q3⟩;exact absurd (kF q1) (by rw[q3,v.rF];exact tY _)
  ·rcases UU h2 with q3|⟨q3,q4⟩
   exact absurd (kF q3) (by rw[q1,v.rF];exact tY _);exact .inr ⟨q2,q4⟩
 unfold TS.step;rw[gl.fK];dsimp only;rw[show f.aD.toNat=aD by rw[gl.uR];exact Gv _];by_cases GA:(t.x.cC (cO t.x d)).Eb f.bP aD=u
 ·rw[aZ GA]
  have th:=tm (x:=t.x.cC (cO t.x d)) gl.Rb (by rw[g7];exact jp.hm) GA;rw[g7]at th;refine⟨lk,sg,rg up,UX,Q4,λi l d' h1 h2 j s q k z=>?_,λl hl=>?_,v.dW,Cy,sm⟩
  rotate_left
  ·show Lp (t.x.cC _).aH _ _
   rw[g2];rcases oQ.mp hl with q|q
   ·exact⟨(v.Fs l q).1,(v.Fs l q).2.imp (up l) id⟩
   ·rw[iU.mp q,gl.oW]
    exact⟨gl.lb.1,gl.lb.2.imp .inl id⟩
  show Jm (t.x.cC _).aH _ _ _ _ _ _ _;rw[g2];rcases sP i l d' h1 h2 with⟨q1,q2⟩|⟨q1,q2⟩
  ·exact (v.iD i l d' q1 q2 j s q k z).imp (λl _=>JE (up l)) (λ_ q hq=>⟨q,hq⟩) λ_ _ z=>z
  ·rw[q1,gl.oW]
   rw[q2,cf hL hG,<-v.tV]at z;exact (gl.jm (j:=j) (tn jp.below jp.hm (aL jp.nK (fW _ _)) th z)).imp (λl _=>JE .inl) (λ_ q hq=>⟨q,hq⟩) λ_ _ z=>z
 ·rw[aR GA]
  cases F2:nV t.dW d with
  | some l=>
   have Bv:=hV' F2;refine⟨lk,sg,rg up,UX,Q4,λi l' d' h1 h2 j s q k z=>?_,λl' hl=>?_,v.dW,Cy,sm⟩
   rotate_left
   ·show Lp (t.x.cC _).aH _ _
    rw[g2];rcases oQ.mp hl with q|q
    ·exact⟨(v.Fs l' q).1,(v.Fs l' q).2.imp (up l') id⟩
    ·obtain⟨d2,e1,e2,e3⟩:=v.dW _ Bv
     rw[iU.mp q];exact⟨e2,.inl (.inr ⟨_,Bv,rfl⟩)⟩
   show Jm (t.x.cC _).aH _ _ _ _ _ _ _;rw[g2];rcases sP i l' d' h1 h2 with⟨q1,q2⟩|⟨q1,q2⟩
   ·exact (v.iD i l' d' q1 q2 j s q k z).imp (λl _=>JE (up l)) (λ_ q hq=>⟨q,hq⟩) λ_ _ z=>z
   ·obtain⟨d2,e1,e2,e3⟩:=v.dW _ Bv
    rw[q1];rw[q2,pY e1]at z;exact .uN e2 _ e3 (.inl (.inr ⟨_,Bv,rfl⟩)) z
  | none=>
   have Bt:lk.length=t.x.aH.length:=v.rq.elim λ_ k=>k.pS;have Ur:∀l,xW t.x.aA t.dW l->xW (t.x.cC (cO t.x d)).aA (t.dW++[((d:J),(t.x.aH.length:J))]) l:=λl q=>(up l q).imp id λ⟨p,h1,h2⟩=>⟨p,Vd _ h1,h2⟩;have vV:(lk++[Mt st (Aw L G d)])[(t.x.aH.length:J).toNat]?=Z (Mt st (Aw L G d)):=by rw[Gv,<-Bt,kZ]
   refine⟨lk++[Mt st (Aw L G d)],sg.cY,(rg Ur).cY _,UX,Q4,λi l' d' h1 h2 j s q k z=>?_,λl' hl=>?_,λp Bw=>?_,Cy,sm⟩
   rotate_left
   ·show Lp ((t.x.cC _).aH++[-1]) _ _
    rw[g2];rcases oQ.mp hl with q|q
    ·exact⟨(v.Fs l' q).1,(v.Fs l' q).2.imp (Ur l') λ⟨q,a⟩=>⟨q,rZ a⟩⟩
    ·rw[iU.mp q]
     exact⟨eQ _,.inl (.inr ⟨_,E7 _ (iU.mpr rfl),rfl⟩)⟩
   rotate_left
   ·show Jm ((t.x.cC _).aH++[-1]) _ _ _ _ _ _ _
    rw[g2];rcases sP i l' d' h1 h2 with⟨q1,q2⟩|⟨q1,q2⟩
    ·exact (v.iD i l' d' q1 q2 j s q k z).imp (λl _=>Or.imp (Ur l) λ⟨q,a,b⟩=>⟨q,rZ a,b⟩) (λ_ q hq=>⟨q,rZ hq⟩) λ_ _ z=>rZ z
    ·rw[q1]
     rw[q2]at z;exact .uN (eQ _) _ vV (.inl (.inr ⟨_,E7 _ (iU.mpr rfl),rfl⟩)) z
   ·rcases oQ.mp Bw with q|q
    ·obtain⟨d2,q0,q1,q2⟩:=v.dW p q
     exact⟨d2,q0,q1,rZ q2⟩
    ·rw[iU.mp q]
     exact⟨d,rfl,eQ _,vV⟩
def Ps(L:Y (O×aC))(G:Y Gf)(h:O)(ds:Y O):Prop:=∀d∈ds,d<L.length/\yY (λ(aD:O) (_:Gf)=>L[L.length-1-d]?=Z (aD,aE)) (λ_ g=>G[L.length-1-d]?=Z g) (λaD _=>aD<=h)
theorem EA.gJ{c:X}{st:Y aQ}:∀{es ds:Y O} {t:TS} {lk:Y As},EA V t lk W L G h c st ds->Ps L G h es->∃fO,EA V (t.gJ es) fO W L G h c st (ds++es)
 | [],ds,t,lk,v,_=>⟨lk,(pH ds).symm▸v⟩
 | d::r,ds,t,lk,v,hd=>by
  obtain⟨h1,aD,g,h2,h3,h4⟩:=hd d vG;obtain⟨fO,v'⟩:=v.step h1 h2 h3 h4;have:=EA.gJ (es:=r) (t:=t.step d) v' (λe he=>hd e (tX _ he));rwa [fB]at this
end
section
variable{V:V2}{G:Y Gf}{lk:Y As}{W W':As}{P P':J->Prop}{C':BC}
theorem fa': (x.cC k).dS l=(x.dS l).cC k:=by
 unfold X.cC;show _=match x.aA[k]? with
  | some f=> {x.dS l with aA:=(x.dS l).aA.set k f.eW}
  | none=>x.dS l
 cases x.aA[k]? with
 | some f=>rfl
 | none=>rfl
structure Wg(V:V2)(x w:X)(lk:Y As)(L:Y (O×aC))(G:Y Gf)(h:O)(st:Y aQ)(ps:Y (J×J)):Prop where
 Gm:fP w lk L G h
 rq:Rq V w lk No (xW w.aA ps)
 tV:w.R=st
 fr:iC x w
 same:A3 (w.aF=x.aF) (w.cL=x.cL) (0<=w.bV)
theorem oL'(qJ:Ps L G h ds):∀{ps:Y (J×J)} {x:X},Wg V c x lk L G h st ps->(∀p∈ps,rA (λd:O=>p.1=(d:J)) (λd=>d∈ds) (λd=>0<=p.2/\lk[p.2.toNat]?=Z (Mt st (Aw L G d))))->Wg V c (mU x ps) lk L G h st []:=by
 intro ps;induction ps with
 | nil=>exact λv _=>v
 | cons p ps ih=>
  intro x v hs;obtain⟨d,mQ,hdm,q0,q1⟩:=hs p vG;obtain⟨Yz,aD,g,hL,hG,hm⟩:=qJ d hdm;have hp:1<=L.length:=CY Yz;have v1:fP (x.dS p.2.toNat) lk L G h:=v.Gm.dS;have r1:Rq V (x.dS p.2.toNat) lk (Mt st (Aw L G d)) (xW x.aA ps):=(v.rq.lN λ_ _ _ z=>z.elim).dS q1 (λi hi=>by
   rcases hi with q|⟨p',Bw,e⟩
   ·exact .inl (.inl q)
   ·rcases oE.mp Bw with e2|Bw
    ·exact .inr (e▸e2▸(pG q0).symm)
    ·exact .inl (.inr ⟨p',Bw,e⟩))
  obtain⟨f,cT,gl⟩:=v1.EO Yz hL hG;obtain⟨rj,sj,Ii⟩:=Se (W':=No) (P':=xW ((x.dS p.2.toNat).cC (cO (x.dS p.2.toNat) d)).aA ps) v1 r1 gl hp hm (λl q=>q.imp (λq=>N7 (x:=x.dS p.2.toNat) q) id) (λl q=>.inl q) λs t k z=>by
   show g.be (jF g.hb aD (x.R.map (Ev s))) (kR s) t k;rw[v.tV,<-cf hL hG];exact z
  have gd':qR x p=(((x.dS p.2.toNat).cC (cO (x.dS p.2.toNat) d)).iF f.bP aD).cH 259 cT (.i 0) 0:=by
   have e:cO (x.dS p.2.toNat) d=cO x p.1.toNat:=by rw[mQ];rfl
   have uP:x.aA[cO x p.1.toNat]?=Z f:=by rw[<-e];exact gl.fK
   unfold qR;rw[uP];dsimp only;rw[fa',e,gl.uR,gl.oW];rfl
  obtain⟨g1,g2,g3,g4,g5,g6,g7⟩:=Ft (x:=x.dS p.2.toNat) (k:=cO (x.dS p.2.toNat) d);refine ih (x:=qR x p) ?_ λq hq=>hs q (tX _ hq);rw[gd'];have a1:iC x ((x.dS p.2.toNat).cC (cO (x.dS p.2.toNat) d)):=(iC.of_eq (y:=x.dS p.2.toNat) rfl).trans Fv;refine⟨(v1.eW (k:=cO (x.dS p.2.toNat) d) hp).same sj (Ii.trans g7.symm),sj.aA.symm▸rj,Ii.trans v.tV,(v.fr.trans a1).trans (.of_eq sj.aA),sj.aF.trans (g4.trans v.same.1),sj.cL.trans (g6.trans v.same.2),?_⟩;rw[sj.bV,g3];exact eQ _
theorem ph'(h:ls.length=n)(h1:1<=n):ls[Dg v n]?=Z (RK.tg v ls):=by unfold RK.tg;rw[h];show _=Z (ls.getD (Dg v n) 0);have hl:Dg v n<ls.length:=h.symm▸Ui h1;rw[sW,cS hl];rfl
theorem oE'(a:At V x n L G (Z (h+1)) C)(hl:x.bH=u)(hn:n<=236)(hp:1<=L.length){ds:Y O}(h3:ds.length<=3)(h1:1<=ds.length)(qJ:Ps L G h ds)(h2:∀p∈L,p.1<=2)(hC:∀vs v pl t k,C (vs++[v]) pl t k->Aw L G (ds.getD (Dg v ds.length) 0) vs pl t k):rX V x n L G (.hO ds) aB C':=by
 obtain⟨lk,v0,r0⟩:=a.qD hl;obtain⟨e,he,hs⟩:=wL v0 hp;have sp:=v0.pop hp;have lZ:1<=x.R.length:=wM hs;have xJ:∀{z:X},fP z lk L G h->∀d∈ds,uC z d:=λv d hd=>by
  obtain⟨h1,aD,g,hL,hG,hm⟩:=qJ d hd;obtain⟨f,cT,gl⟩:=v.EO h1 hL hG;exact gl.depth (v.fr.len.symm▸h1) (v.jp gl hp hm).hm (h2 _ (oF hL))
 refine⟨⟨a.fits hn,a.bV,λ_=>⟨lZ,xJ sp,aL h3 (by decide)⟩⟩,λbB=>?_⟩;rw[DK hl];show At V (x.pop.AY x.cD ds) _ _ _ _ _/\iC x (x.pop.AY x.cD ds);obtain⟨r1,k1⟩:=Lv.split ⟨r0,v0.es,v0.aF⟩ lZ;obtain⟨m2,m3,m4,m5⟩:=US (bG:=[]) r1 k1 (DL v0.aF (by rw[xV hs,hs];exact cE _));have eC:=(X.xZ (x:=x.pop) (e:=x.cD) (h:=x.pop.R.length)).1;have sL:=X.pE (x:=x);unfold X.AY;generalize (x.pop.fT x.pop.R.length x.cD).2=iP at *;generalize (x.pop.fT x.pop.R.length x.cD).1=z at *;have Nf:jJ x z:=jx.trans m4;have sz:fP z lk L G h:=sp.same m4 m5;have t0:EA V ⟨z,[],[]⟩ lk (λs t j=>Mt (x.pop.R++x.cD::[]) C s t j/\s iP=Ev s x.cD) L G h z x.pop.R []:=⟨sz,by
  show Rq V z lk _ (xW z.aA []);rw[m4.aA];exact m2.dJ λl q=>.inl q,m5,rfl,λi l d hi _=>cI hi,λl hl=>absurd hl nA,λp hp=>absurd hp nA,.refl _,rfl,rfl,rfl,rfl⟩
 obtain⟨fO,v⟩:=t0.gJ qJ;rw[I7]at v;obtain⟨f1,f2,f3,f4,f5,f6,f7,f8⟩:=TS.qv (t:=⟨z,[],[]⟩) (ds:=ds) (es:=ds) ⟨0,0,0,0,0,0,0⟩ (λe he=>he) (λp hp=>absurd hp nA);have f3':(TS.gJ ⟨z,[],[]⟩ ds).x.size<=z.size+ds.length:=f3;have f7':(TS.gJ ⟨z,[],[]⟩ ds).dW.length<=0+ds.length:=f7;generalize TS.gJ ⟨z,[],[]⟩ ds=t at *;have rt:Rq V (t.x.cH 262 iP (.t t.iD) 0) fO No (xW t.x.aA t.dW):=v.rq.cH (.hO iP t.iD) rfl ⟨by rw[v.same.2,m4.aF];exact m3,cM (v.rF▸h3) (by decide),λe=>by have:=v.rF;rw[e]at this;exact absurd (this▸h1) (by decide)⟩ (lb:=v.Fs) λs q k z=>by
  obtain⟨z1,z2⟩:=z;show Jm t.x.aH fO _ _ (RK.tg (s iP) t.iD) s q k;rw[z2];have cQ:=Ui (v:=Ev s x.cD) h1;refine v.iD _ _ _ (ph' v.rF h1) (cS cQ) _ _ _ _ ?_;have:=hC _ _ _ _ _ (yV.mp z1);rwa [sW,cS cQ]at this
 have Cz:iC x t.x:=(iC.of_eq Nf.aA).trans v.fr;have st:fP (t.x.cH 262 iP (.t t.iD) 0) fO L G h:=v.Gm.same ⟨rfl,rfl,rfl,rfl,rfl,rfl⟩ rfl;have s1:=oL' (c:=x) qJ (ps:=t.dW) (x:=t.x.cH 262 iP (.t t.iD) 0) ⟨st,rt,v.tV,Cz,v.same.2.trans Nf.aF,v.same.4.trans Nf.cL,by show 0<=t.x.bV;rw[v.same.1,Nf.bV];exact a.bV⟩ λp hp=>by
  obtain⟨d,q0,q1,q2⟩:=v.dW p hp;obtain⟨⟨d2,hd2,e2⟩,_⟩:=f8 p hp;exact⟨d,q0,(pY (q0.symm.trans e2))▸hd2,q1,q2⟩
 have Z1:=rh (x:=t.x.cH 262 iP (.t t.iD) 0) (ps:=t.dW) (ds:=ds) ⟨0,0,0,0,0,0,0⟩ (λd hd=>by
  obtain⟨h1,aD,g,hL,hG,hm⟩:=qJ d hd;obtain⟨f,cT,gl⟩:=st.EO h1 hL hG;exact gl.depth (st.fr.len.symm▸h1) (st.jp gl hp hm).hm (h2 _ (oF hL))) (λp hp=>(f8 p hp).1) t.dW.length
 rw[CV]at Z1;have b3:=Z1.3;have hez:(t.x.cH 262 iP (.t t.iD) 0).size=t.x.size+1:=X.tJ;generalize mU (t.x.cH 262 iP (.t t.iD) 0) t.dW=w at *;refine⟨a.lB (y:= {w with bH:=aE}) (lk:=fO) rfl s1.fr s1.Gm.fr (s1.rq.dJ λl q=>q.elim id λ⟨p,hp,_⟩=>absurd hp nA) s1.same.2 ?_ s1.same.1 ?_ s1.same.3 hn,s1.fr⟩
 ·show (w.R.length:J)<=_
  rw[s1.tV];exact fV.mpr (by rw[DV];exact fW _ _)
 ·show w.size<=_
  refine aL b3 (aL (eN (aL (dH hez) (gP (aL f3 (eN (aL eC (gP sL)) h3)))) (yQ 3 (aL f7' (by rw[nQ];exact h3)))) ?_);exact (eN (bU _ _) (by decide):x.size+14<=x.size+x.R.length+16)
end
section
variable{V:V2}{G:Y Gf}{lk:Y As}{W W':As}{P P':J->Prop}{C':BC}
theorem wB(h:z.aA=F++[f]):z.bF=f:=by unfold X.bF;rw[h,Ds];rfl
theorem N6{l:J}(h:dJ F l):dJ (F++[f]) l:=h.imp λ_ k=>⟨Vd _ k.1,k.2⟩
theorem hG'{aF:J}(k:gV x.aA aH lk aF L G){i:O}{g:Fr}(hi:x.aA[i]?=Z g):g.bP<=x.bF.bP:=by have hl:=kF hi;exact k.cV _ _ _ _ (LZ hl) hi (NV (x:=x) (CY hl))
theorem Cq{l:Y α}{i:O}{v b:α}(h:(l++[b])[i]?=Z v):l[i]?=Z v\/i=l.length/\v=b:=by
 by_cases hi:i<l.length;rw[gO hi]at h;exact .inl h
 ·have e:i=l.length:=BM (BN (by have:=kF h;rwa [bA]at this)) (kU.mp hi)
  rw[e,kZ]at h;exact .inr ⟨e,(aT h).symm⟩
theorem gV.dI{aF:J}{q:O×aC}(k:gV x.aA aH lk aF L G)(o:wV aH lk aF q g f el)(hl:x.bF.bP<=f.bP)(h0:L=[]->f.bP=0):gV (x.aA++[f]) aH lk aF (L++[q]) (G++[g]):=by
 have dE:=k.len;have hg:=k.rF;refine⟨by rw[bA,bA,dE];rfl,by rw[bA,bA,hg];rfl,λi p g' f' hp Bq sK=>?_,λi j f1 f2 qK h1 h2=>?_,λf' sK=>?_⟩
 ·rcases Cq hp with a|⟨a,a2⟩<;>rcases Cq Bq with b|⟨b,b2⟩<;>rcases Cq sK with c|⟨c,c2⟩
  exact k.ok i p g' f' a b c;have:=kF a;exact absurd this (by rw[c,dE];exact tY _);have:=kF a;exact absurd this (by rw[b,hg];exact tY _);have:=kF a;exact absurd this (by rw[b,hg];exact tY _);have:=kF b;exact absurd this (by rw[a,hg];exact tY _);have:=kF b;exact absurd this (by rw[a,hg];exact tY _);have:=kF c;exact absurd this (by rw[a,dE];exact tY _);rw[a2,b2,c2];exact⟨el,o⟩
 ·rcases Cq h2 with b|⟨b,b2⟩
  ·rcases Cq h1 with a|⟨a,a2⟩
   exact k.cV i j f1 f2 qK a b;exact absurd (kF b) (kU.mpr (a▸qK))
  ·rw[b2]
   rcases Cq h1 with a|⟨a,a2⟩
   exact gB (hG' k a) hl;rw[a2];exact mY _
 ·rcases Cq sK with a|⟨a,a2⟩
  exact k.zero f' a;rw[a2];exact h0 (Dr (dE▸a.symm))
structure JV(x z:X)(f:Fr)(hh p r:O):Prop where
 fr:z.aA=x.aA++[f]
 dG:f.eE=aB
 bP:f.bP=(hh:J)
 params:f.params=(p:J)
 gS:f.gS=(r:J)
 used:f.used=aE
 aF:z.aF=x.aF
 bH:z.bH=x.bH
 cL:z.cL=x.cL
 size:z.size<=x.size+x.R.length+3
 bV:0<=x.bV->0<=z.bV
 R:z.R=X.eB (hh+p)
 sum:x.R.length=hh+p
theorem fP.ph{cK:Sv->BC}(hD:∀s (h:O) v,h<x.R.length->cK (up s (4+h) v)=cK s)(v:fP x lk L G h)(r:Rq V x lk (qY x.R cK) P):A4 (fP (x.dB x.R.length) lk L G h) (Rq V (x.dB x.R.length) lk (qY (X.eB x.R.length) cK) P) ((x.dB x.R.length).R=X.eB x.R.length) (jJ x (x.dB x.R.length)):=by
 obtain⟨h1,h2,h3⟩:=pd hD r v.es v.aF;have hf:(x.dB x.R.length).bF=x.bF:=by unfold X.bF;rw[h3.aA]
 refine⟨⟨by rw[h3.aH,h3.aA,h3.aF];exact v.fr,h2▸Rv,by rw[h2,zP,hf];exact v.len,λi hi=>?_,by rw[h2,zP,h3.aF];exact v.aF⟩,h1,h2,h3⟩;rw[hf]at hi;rw[h2];exact C8 (eZ.mp (mZ hi (by rw[v.len];exact wO (eQ _))))
theorem fP.iK(v:fP x lk L G h)(r:Rq V x lk (Mt x.R C) P):A4 (fP (x.dB x.R.length) lk L G h) (Rq V (x.dB x.R.length) lk (Mt (X.eB x.R.length) C) P) ((x.dB x.R.length).R=X.eB x.R.length) (jJ x (x.dB x.R.length)):=v.ph (cK:=λ_=>C) (λ_ _ _ _=>rfl) r
theorem iy(v:fP x lk L G (h0+p))(xK:0<=x.bF.bP):fQ (λhh:O=>(hh:J)=x.bF.bP+h0) (λhh=>x.R.length=hh+p):=by refine⟨(x.bF.bP+h0).toNat,pG (xb xK (eQ _)),pY ?_⟩;show (x.R.length:J)=(((x.bF.bP+h0).toNat+p:O):J);rw[v.len,pX,pX,pG (xb xK (eQ _)),BJ]
theorem jb{aF:J}(k:gV x.aA aH lk aF L G)(hL:L=[]->h0=0)(e:L=[]):x.bF.bP+(h0:J)=0:=by
 have e2:x.aA=[]:=Dr (by rw[k.len,e];rfl);have:x.bF.bP=0:=by unfold X.bF;rw[e2];rfl
 rw[this,hL e];rfl
theorem ja(be bb bx:BC){cK:Sv->BC}(hD:∀s (h:O) v,h<x.R.length->cK (up s (4+h) v)=cK s){code:J}{p r h0 bB:O}(hc:code≠3)(v:fP x lk L G (h0+p))(rq:Rq V x lk (qY x.R cK) (dJ x.aA))(xK:0<=x.bF.bP)(hL:L=[]->h0=0)(hp:p<=2)(hr:r<=2):JZ (λ(hh:O) fO f=>(hh:J)=x.bF.bP+h0) (λhh fO f=>JV x (x.eG code p r bB) f hh p r) (λhh fO f=>fP (x.eG code p r bB) fO (L++[(r,aE)]) (G++[⟨be,bb,bx,hh,p,r⟩]) p) (λhh fO f=>Rq V (x.eG code p r bB) fO (qY (X.eB (hh+p)) cK) (dJ (x.eG code p r bB).aA)) (λhh fO f=>f.code=code):=by
 obtain⟨w2,w1,w3,w4⟩:=v.ph hD rq;obtain⟨hh,sG,dE⟩:=iy v xK;have eC:=X.AH (x:=x) (n:=x.R.length);unfold X.eG X.DT;rw[aR hc];generalize x.dB x.R.length=y at *;have hf:y.bF=x.bF:=by unfold X.bF;rw[w4.aA]
 have nL:y.R.length=hh+p:=by rw[w3,zP];exact dE
 have EV:lk.length=y.aH.length:=w1.elim λ_ k=>k.pS;have oU:(y.wI code p r bB).bP=(hh:J):=by show (y.R.length:J)-p=_;rw[nL,pX];exact Dp _ _
 have fo:wV y.cY.aH (lk++[Mh (hh+r) be]) y.aF (r,aE) ⟨be,bb,bx,hh,p,r⟩ (y.wI code p r bB) y.aH.length:=
  ⟨⟨λh=>absurd h hc,λh=>mX h⟩,by unfold Fr.aD;exact aR hc,oU,rfl,rfl,rfl,by rw[<-EV,kZ],⟨hp,hr⟩,by have:=w2.aF;rw[nL]at this;exact this,λh=>absurd h hc,λl hl=>nomatch hl⟩
 have fr:=gV.dI (x:=y) (k:=(w2.fr.cY (a:= -1) (K:=Mh (hh+r) be))) fo (by rw[oU,hf,sG];exact wO (eQ _)) (λe=>by rw[oU,sG];exact jb v.fr hL e);have B1:(y.cY.yZ (y.wI code p r bB)).aA=y.aA++[y.wI code p r bB]:=rfl;refine⟨hh,lk++[Mh (hh+r) be],y.wI code p r bB,sG,⟨by rw[B1,w4.aA],rfl,oU,rfl,rfl,rfl,w4.aF,w4.bH,w4.cL,?_,λq=>by show 0<=y.bV;rw[w4.bV];exact q,by show y.R=_;rw[w3,dE],dE⟩,⟨fr,w2.es,?_,λi hi=>?_,w2.aF⟩,?_,rfl⟩
 ·have:(y.cY.yZ (y.wI code p r bB)).size=y.size+2:=by simp [X.size,X.cY,X.yZ];lia
  rw[this];exact aL (dP eC 2) (nC _)
 ·rw[wB B1,oU]
  show (y.R.length:J)=_;rw[nL,pX]
 ·rw[wB B1,oU]at hi
  show y.R[i]?=_;rw[w3];exact C8 (dE▸eP (eZ.mp hi) (bU _ _))
 ·have r1:Rq V y.cY (lk++[Mh (hh+r) be]) (qY (X.eB x.R.length) cK) (dJ x.aA):=w1.cY _
  rw[dE]at r1;have r2:=r1.dJ (P':=dJ (y.aA++[y.wI code p r bB])) λl q=>w4.aA▸N6 q;exact r2
theorem iz(be bb bx:BC){code:J}{p r h0 bB:O}(hc:code≠3)(v:fP x lk L G (h0+p))(rq:Rq V x lk (Mt x.R C) (dJ x.aA))(xK:0<=x.bF.bP)(hL:L=[]->h0=0)(hp:p<=2)(hr:r<=2):JZ (λ(hh:O) fO f=>(hh:J)=x.bF.bP+h0) (λhh fO f=>JV x (x.eG code p r bB) f hh p r) (λhh fO f=>fP (x.eG code p r bB) fO (L++[(r,aE)]) (G++[⟨be,bb,bx,hh,p,r⟩]) p) (λhh fO f=>Rq V (x.eG code p r bB) fO (Mt (X.eB (hh+p)) C) (dJ (x.eG code p r bB).aA)) (λhh fO f=>f.code=code):=ja be bb bx (cK:=λ_=>C) (λ_ _ _ _=>rfl) hc v rq xK hL hp hr
theorem jD'(be bb bx:BC){p h0 bB:O}(v:fP x lk L G (h0+p))(rq:Rq V x lk (Mt x.R C) (dJ x.aA))(hC:∀vs pl t k,C vs pl t k->kk bb vs pl t k)(xK:0<=x.bF.bP)(hL:L=[]->h0=0)(hp:p<=2):JZ (λ(hh:O) fO f=>(hh:J)=x.bF.bP+h0) (λhh fO f=>JV x (x.eG 3 p p bB) f hh p p) (λhh fO f=>fP (x.eG 3 p p bB) fO (L++[(p,u)]) (G++[⟨be,bb,bx,hh,p,p⟩]) p) (λhh fO f=>Rq V (x.eG 3 p p bB) fO (Mt (X.eB (hh+p)) (kk bb)) (dJ (x.eG 3 p p bB).aA)) (λhh fO f=>f.code=3):=by
 obtain⟨w2,w1,w3,w4⟩:=v.iK rq;obtain⟨hh,sG,dE⟩:=iy v xK;have eC:=X.AH (x:=x) (n:=x.R.length);unfold X.eG X.DT;rw[aZ rfl];generalize x.dB x.R.length=y at *;have hf:y.bF=x.bF:=by unfold X.bF;rw[w4.aA]
 have nL:y.R.length=hh+p:=by rw[w3,zP];exact dE
 have EV:lk.length=y.aH.length:=w1.elim λ_ k=>k.pS;generalize lC:({y.wI 3 p p bB with Fe:=Z ((y.aH.length+1:O):J)}: Fr)=f;have oU:f.bP=(hh:J):=by rw[<-lC];show (y.R.length:J)-p=_;rw[nL,pX];exact Dp _ _
 have e1:(lk++[Mh (hh+p) be]).length=y.aH.length+1:=by rw[bA,EV];rfl
 have ZN:(lk++[Mh (hh+p) be]++[Mh (hh+p) (kk bb)])[y.aH.length+1]?=Z (Mh (hh+p) (kk bb)):=by
  rw[<-e1,kZ]
 have oW:(y.cY.cY.dS (y.aH.length+1)).aH[y.aH.length+1]?=Z (y.aP.length:J):=by
  show ((y.aH++[-1]++[-1]).set (y.aH.length+1) _)[_]?=_;exact jZ (by rw[bA,bA];exact iB _)
 have fo:wV (y.cY.cY.dS (y.aH.length+1)).aH (lk++[Mh (hh+p) be]++[Mh (hh+p) (kk bb)]) y.aF (p,u) ⟨be,bb,bx,hh,p,p⟩ f y.aH.length:=by
  refine⟨⟨λ_=>rfl,λ_=>by rw[<-lC];rfl⟩,by rw[<-lC];rfl,oU,by rw[<-lC];rfl,by rw[<-lC];rfl,by rw[<-lC];rfl,rZ (by rw[<-EV,kZ]),⟨hp,hp⟩,by have:=w2.aF;rw[nL]at this;exact this,λ_=>⟨y.aH.length+1,y.aP.length,by rw[<-lC],ZN,oW⟩,λl hl=>by rw[<-lC]at hl;exact nomatch hl⟩
 have Cz:gV y.aA (y.cY.cY.dS (y.aH.length+1)).aH (lk++[Mh (hh+p) be]++[Mh (hh+p) (kk bb)]) y.aF L G:=((w2.fr.cY (a:= -1) (K:=Mh (hh+p) be)).cY (a:= -1) (K:=Mh (hh+p) (kk bb))).fS;have fr:=gV.dI (x:=y) Cz fo (by rw[oU,hf,sG];exact wO (eQ _)) (λe=>by rw[oU,sG];exact jb v.fr hL e);have B1:((y.cY.cY.dS (y.aH.length+1)).yZ f).aA=y.aA++[f]:=rfl;refine⟨hh,lk++[Mh (hh+p) be]++[Mh (hh+p) (kk bb)],f,sG,⟨by rw[B1,w4.aA],by rw[<-lC];rfl,oU,by rw[<-lC];rfl,by rw[<-lC];rfl,by rw[<-lC];rfl,w4.aF,w4.bH,w4.cL,?_,λq=>eQ y.aP.length,by show y.R=_;rw[w3,dE],dE⟩,⟨fr,w2.es,?_,λi hi=>?_,w2.aF⟩,?_,by rw[<-lC];rfl⟩
 ·have:((y.cY.cY.dS (y.aH.length+1)).yZ f).size=y.size+3:=by simp [X.size,X.cY,X.yZ,X.dS];lia
  rw[this];exact dP eC 3
 ·rw[wB B1,oU]
  show (y.R.length:J)=_;rw[nL,pX]
 ·rw[wB B1,oU]at hi
  show y.R[i]?=_;rw[w3];exact C8 (dE▸eP (eZ.mp hi) (bU _ _))
 ·have r0:Rq V y lk (Mt (X.eB (hh+p)) (kk bb)) (dJ x.aA):=(dE▸w1).lN λs t k z=>hC _ _ _ _ z
  have r1:Rq V (y.cY.cY.dS (y.aH.length+1)) (lk++[Mh (hh+p) be]++[Mh (hh+p) (kk bb)]) (Mt (X.eB (hh+p)) (kk bb)) (dJ x.aA):=((r0.cY (Mh (hh+p) be)).cY (Mh (hh+p) (kk bb))).dS ZN (λi hi=>.inl hi);have r2:=r1.dJ (P':=dJ (y.aA++[f])) λl q=>w4.aA▸N6 q;exact r2
end
namespace X
def YJ(x:X)(f:Fr)(fe hp:O):X:=(((x.iA.uK).Ae f.eE).vQ f.used fe).rC hp
end X
def Pu(V:V2)(c:X)(m:J)(lk:Y As)(W:As)(P:J->Prop):Prop:=∃ks,Rz V c.aP c.aH c.bV m ks lk W P
def Wl(b:aC)(W:As):As:=match b with
 | true=>W
 | false=>No
theorem Wl.to{b:aC}{W:As}:∀{s t k},Wl b W s t k->W s t k:=λ{s t k} h=>match b,h with
 | true,h=>h
 | false,h=>Iz h
section
variable{j:J}
variable{V:V2}{G:Y Gf}{q:O×aC}{lk:Y As}{W W' K K':As}{P P':J->Prop}{C':BC}
theorem gV.pop(k:gV aA aH lk m (L++[q]) (G++[g])):gV aA.dropLast aH lk m L G:=by
 have hl:=k.len;rw[bA]at hl;have hg:=k.rF;rw[bA,bA]at hg;have d:∀{i:O} {f:Fr},aA.dropLast[i]?=Z f->aA[i]?=Z f:=λ{i f} h=>by
  rw[Gx]at h;by_cases e:i<aA.length-1;rw[aZ e]at h;exact h;rw[aR e]at h;exact nomatch h
 exact⟨by rw[iR,hl];rfl,G1 hg,λi p g f hp hg hf=>k.ok i p g f (rZ hp) (rZ hg) (d hf),λi j f f' qK hf sK=>k.cV i j f f' qK (d hf) (d sK),λf hf=>k.zero f (d hf)⟩
theorem gV.DH(k:gV x.aA aH lk m (L++[q]) (G++[g])):jO (λel=>wV aH lk m q g x.bF el):=by have hl:=k.len;rw[bA]at hl;have hg:=k.rF;rw[bA,bA]at hg;have h1:=NV (x:=x) (by rw[hl];exact dL _ _);refine k.ok _ _ _ _ ?_ ?_ h1;rw[hl];exact kZ;rw[hl,<-G1 hg];exact kZ
theorem Yb(h:1<=x.aA.length):x.aA=x.aA.dropLast++[x.bF]:=by
 have gF:x.aA≠[]:=λe=>by rw[e]at h;exact absurd h (by decide)
 obtain⟨f,hf⟩:=tL (l:=x.aA) h;have e:x.bF=f:=by unfold X.bF;rw[hf];rfl
 rw[yf gF]at hf;rw[e,<-aT hf];exact (VS gF).symm
theorem Tv(h:1<=x.aA.length){l:J}(p:dJ x.aA l):dJ x.aA.dropLast l\/(x.bF.used=u/\x.bF.gE=Z l)\/x.bF.eE=Z l:=by
 rw[Yb h]at p;obtain⟨f,hf,k⟩:=p;rcases oQ.mp hf with hf|hf
 ·exact .inl ⟨f,hf,k⟩
 ·rw[iU.mp hf]at k
  exact .inr k
theorem kd(r:Pu V x m lk W P)(k:gV F x.aH lk m L G)(hW:∀s t k,W s t k->K s t k)(hl:lk[l]?=Z K')(hK:∀s t k,K' s t k->K s t k)(hP:∀i,P i->P' i\/i=l):Pu V (x.dS l).H8 m lk K P'/\gV F (x.dS l).H8.aH lk m L G:=
 ⟨r.imp λ_ w=>(w.lN hW).fS hl hK hP,k.fS⟩
structure WY(V:V2)(x w:X)(L:Y (O×aC))(G:Y Gf)(hh r:O)(B:BC):Prop where
 aP:fQ (λlk=>Rq V w lk (Wl w.bH (Mh (hh+r) B)) (dJ w.aA)) (λlk=>gV w.aA w.aH lk w.aF L G)
 fr:w.aA=x.aA.dropLast
 cL:w.cL=x.cL
 R:w.R=X.eB (hh+r)
 aF:w.aF=X.zV x.aF (hh+r:O)
 size:w.size<=x.size+(hh+r)
 bV:0<=w.bV
theorem ix': i<=X.zV i j:=by unfold X.zV;by_cases h:j>i;rw[aZ h];exact vE h;rw[aR h];exact mY _
theorem dt: j<=X.zV i j:=by unfold X.zV;by_cases h:j>i;rw[aZ h];exact mY _;rw[aR h];exact oD.mp h
structure FV(V:V2)(x w:X)(m:J)(lk:Y As)(W:As)(F:Y Fr)(P:J->Prop)(L:Y (O×aC))(G:Y Gf)(sz:O):Prop where
 aP:Pu V w m lk (Wl w.bH W) P
 Jt:gV F w.aH lk m L G
 fr:w.aA=F
 cL:w.cL=x.cL
 aF:w.aF=x.aF
 size:w.aP.length+w.aH.length+w.aA.length<=sz
theorem FV.dV'{sz:O}{o:aG J}(c:FV V x y m lk W F P L G sz)(h0:o=aB->∀i,P i->P' i)(h1:∀l,o=Z l->rA (λe:O=>l=(e:J)) (λe=>∃K,lk[e]?=Z K/\∀s t k,K s t k->W s t k) (λe=>∀i,P i->P' i\/i=e)):FV V x (y.Ae o) m lk W F P' L G sz:=by
 cases o with
 | none=>exact⟨c.aP.imp λ_ k=>k.dJ (h0 rfl),c.Jt,c.fr,c.cL,c.aF,c.size⟩
 | some l=>
  obtain⟨e,rfl,⟨K,e1,e2⟩,e3⟩:=h1 l rfl;obtain⟨g1,g2⟩:=kd (x:=y) (P':=P') (l:=e) c.aP c.Jt (λ_ _ _=>Wl.to) e1 e2 e3;exact⟨g1,g2,c.fr,c.cL,c.aF,by show _+(y.aH.set _ _).length+_<=_;rw[mI];exact c.size⟩
theorem FV.pQ'{sz:O}{aN:aC}{e:O}(c:FV V x y m lk W F P L G sz)(h0:aN=aE->∀i,P i->P' i)(h1:aN=u->lk[e]?=Z W)(h2:∀i,P i->P' i\/i=e):FV V x (y.vQ aN e) m lk W F P' L G sz:=by
 cases aN with
 | false=>exact⟨c.aP.imp λ_ k=>k.dJ (h0 rfl),c.Jt,c.fr,c.cL,c.aF,c.size⟩
 | true=>
  obtain⟨g1,g2⟩:=kd (x:=y) (P':=P') (l:=e) c.aP c.Jt (λ_ _ _=>Wl.to) (h1 rfl) (λ_ _ _ h=>h) h2;exact⟨g1,g2,c.fr,c.cL,c.aF,by show _+(y.aH.set _ _).length+_<=_;rw[mI];exact c.size⟩
theorem em'(a:At V x n (L++[q]) (G++[g]) ho C)(hE:x.bH=u->ho=Z g.rr)(lI:x.bF.eE=aB\/g.pp=g.rr)(hC:∀vs pl t k,C vs pl t k->g.be vs pl t k)(hX:∀l,x.bF.eE=Z l->∀vs pl t k,g.bx vs pl t k->g.be vs pl t k):WY V x (x.YJ x.bF (x.bF.gE.getD 0).toNat (g.hb+g.rr)) L G g.hb g.rr g.be:=by
 obtain⟨lk,fr,rl,rd⟩:=a.aP;have jT:1<=x.aA.length:=by rw[fr.len,bA];exact dL _ _
 obtain⟨el,fo⟩:=fr.DH;have hm:x.aF<=X.zV x.aF (g.hb+g.rr:O):=ix';have sL:x.iA.size<=x.size:=eR (by show x.aA.dropLast.length<=_;exact IB) _;have c1:FV V x x.iA.uK (X.zV x.aF (g.hb+g.rr:O)) lk (Mh (g.hb+g.rr) g.be) x.aA.dropLast (dJ x.aA) L G x.size:=by
  unfold X.uK;cases hl:x.bH with
  | true=>
   rw[aZ (show x.iA.bH=u from hl)];obtain⟨h',e,dE⟩:=a.high hl;have e':h'=g.rr:=aT (e.symm.trans (hE hl));have F9:x.R.length=g.hb+g.rr:=by rw[fo.bP,e']at dE;exact pY (dE.trans (pX _ _).symm)
   obtain⟨r0,es⟩:=rl hl;obtain⟨w2,w3,w5⟩:=oz (c:=x.iA) r0 es a.aF;have eC:=X.AH (x:=x.iA) (n:=x.iA.R.length);have Bt:(x.iA.dB x.iA.R.length).R.length=x.iA.R.length:=X.Gj;generalize x.iA.dB x.iA.R.length=z at *;rw[show x.iA.R.length=g.hb+g.rr from F9]at w2;obtain⟨ks,k⟩:=w2;refine⟨⟨ks,?_⟩,by rw[w5.aH];exact fr.pop.up hm,w5.aA,w5.cL,w5.aF,aL (zc (b:=z.R.length) (aL (dH (hS _ _ _)) (aL eC (dH (aW (_ + ·) Bt.symm))))) sL⟩;rw[w5.bH.trans (show x.iA.bH=u from hl)];exact (k.lN (W':=Mh (g.hb+g.rr) g.be) λs t k z=>hC _ _ _ _ z).TJ (by rw[w5.aF];exact hm)
  | false=>
   rw[aR (by rw[show x.iA.bH=x.bH from rfl,hl];decide)];obtain⟨ks,k⟩:=rd hl;refine⟨⟨ks,?_⟩,fr.pop.up hm,rfl,rfl,rfl,aL (dP (bU _ _) _) sL⟩;rw[show x.iA.bH=aE from hl];exact k.TJ hm
 have c2:=c1.dV' (o:=x.bF.eE) (P':=λl=>dJ x.aA.dropLast l\/(x.bF.used=u/\x.bF.gE=Z l)) (λhe l p=>by
   rcases Tv jT p with p|p|p
   exact .inl p;exact .inr p
   ·rw[he]at p;exact nomatch p) (λl he=>by
   obtain⟨e,e1,e2⟩:=fo.dG l he;refine⟨e,e1,⟨_,e2,λs t k z=>?_⟩,λi p=>?_⟩
   ·have epp:g.pp=g.rr:=by
     rcases lI with p|p
     rw[he]at p;exact nomatch p;exact p
    rw[epp]at z;exact hX l he _ _ _ _ z
   ·rcases Tv jT p with p|p|p
    exact .inl (.inl p);exact .inl (.inr p)
    ·rw[he]at p;exact .inr ((aT p).symm.trans e1))
 have rG:(x.bF.gE.getD 0).toNat=el:=by rw[fo.gE];rfl
 have c3:=c2.pQ' (aN:=x.bF.used) (e:=(x.bF.gE.getD 0).toNat) (P':=dJ x.aA.dropLast) (λhu l p=>by
   rcases p with p|p
   ·exact p
   ·rw[hu]at p;exact nomatch p.1) (λ_=>by rw[rG];exact fo.dY) (λi p=>by
   rcases p with p|p
   ·exact .inl p
   ·right;have:=p.2;rw[fo.gE]at this;rw[rG];exact (aT this).symm)
 unfold X.YJ;generalize (x.iA.uK.Ae x.bF.eE).vQ x.bF.used (x.bF.gE.getD 0).toNat=x3 at *;have Hi:(x3.rC (g.hb+g.rr)).aF=X.zV x.aF (g.hb+g.rr:O):=by
  show X.zV x3.aF _=_;rw[c3.aF]
 refine⟨⟨lk,?_,?_⟩,c3.fr,c3.cL,rfl,Hi,?_,c3.aP.elim λ_ k=>k.f0⟩
 ·unfold Rq
  rw[Hi];show ∃ks,Rz V x3.aP x3.aH x3.bV _ ks lk (Wl x3.bH _) (dJ x3.aA);rw[c3.fr];exact c3.aP
 ·rw[Hi]
  show gV x3.aA x3.aH lk _ L G;rw[c3.fr];exact c3.Jt
 ·show x3.aP.length+x3.aH.length+(X.eB (g.hb+g.rr)).length+x3.aA.length<=_
  rw[zP,hS];exact dP c3.size _
end
section
variable{V:V2}{G:Y Gf}{q:O×aC}{lk:Y As}{W W' K K':As}{P P':J->Prop}{C':BC}
theorem DN(h:hZ m=Z (p,r)):p<=2/\r<=2:=
 TH (P:=λ_ p r=>p<=2/\r<=2) h (by decide) (by decide) (by decide) (by decide) (by decide) (by decide)
theorem At.Mj(a:At V x n L G (Z h) C)(hl:x.bH=u):0<=x.bF.bP:=by
 obtain⟨lk,v,r⟩:=a.qD hl;by_cases hp:1<=L.length;exact Qx v hp
 ·have e:x.aA=[]:=Dr (by rw[v.fr.len];exact Nat.eq_zero_of_not_pos hp)
  unfold X.bF;rw[e];exact mY _
structure Pr(V:V2)(x:X)(n:O)(L:Y (O×aC))(G:Y Gf)(i:aI)(be bb bx:BC)(lp:aC)(h p r:O)(C':BC)(dG:aC):Prop where
 nH:x.D3 i
 to:∀bB,yY (λ(f:Fr) (hh:O)=>At V (x.take i bB) (n+1) (L++[(r,lp)]) (G++[⟨be,bb,bx,hh,p,r⟩]) (Z p) C') (λf hh=>(x.take i bB).aA=x.aA++[f]) (λf hh=>A3 ((hh:J)=x.bF.bP+h) (f.bP=(hh:J)) (f.eE.isSome=dG))
theorem jc{hh p r m:O}(o:JV x z f hh p r)(h:x.aF+x.aA.length<=(n:J)+3):z.aF+z.aA.length<=((n+1:O):J)+3:=by rw[o.aF,o.fr,bA];exact fy h
theorem os'(be bb bx:BC){p r:O}(a:At V x n L G (Z (h+p)) C)(hl:x.bH=u)(hn:n<=236)(hL:L=[]->h=0){m:J}(hm:hZ m=Z (p,r)):Pr V x n L G (.block m) be bb bx aE h p r C aE:=by
 obtain⟨lk,v,rq⟩:=a.qD hl;obtain⟨hp,hr⟩:=DN hm;refine⟨⟨a.fits hn,a.bV,λ_=>by show (hZ m).isSome=u;rw[hm];rfl⟩,λbB=>?_⟩;rw[DK hl];have xL:X.io m=(p,r):=by unfold X.io;rw[hm];rfl
 have hd:x.Ab (.block m) bB=x.eG 2 p r bB:=by
  show x.eG 2 (X.io m).1 (X.io m).2 bB=_;rw[xL]
 rw[hd];obtain⟨hh,fO,f,sG,o,v',r',_⟩:=iz be bb bx (code:=2) (r:=r) (bB:=bB) (by decide) v rq (a.Mj hl) hL hp hr;exact⟨f,hh,At.GU v' (o.R▸r') (o.bH.trans hl) (o.cL.trans a.skip) (jc (m:=0) o a.qO) (a.sz hn o.size (by decide)) (o.bV a.bV),o.fr,sG,o.bP,by rw[o.dG];rfl⟩
theorem oz'(be bb bx:BC){p:O}(a:At V x n L G (Z (h+p)) C)(hl:x.bH=u)(hn:n<=236)(hL:L=[]->h=0){m:J}(hm:hZ m=Z (p,p))(hC:∀vs pl t k,C vs pl t k->kk bb vs pl t k):Pr V x n L G (.loop m) be bb bx u h p p (kk bb) aE:=by
 obtain⟨lk,v,rq⟩:=a.qD hl;obtain⟨hp,hr⟩:=DN hm;refine⟨⟨a.fits hn,a.bV,λ_=>by show (hZ m).isSome=u;rw[hm];rfl⟩,λbB=>?_⟩;rw[DK hl];have xL:X.io m=(p,p):=by unfold X.io;rw[hm];rfl
 have hd:x.Ab (.loop m) bB=x.eG 3 p p bB:=by
  show x.eG 3 (X.io m).1 (X.io m).2 bB=_;rw[xL]
 rw[hd];obtain⟨hh,fO,f,sG,o,v',r',_⟩:=jD' be bb bx (bB:=bB) v rq hC (a.Mj hl) hL hp;exact⟨f,hh,At.GU v' (o.R▸r') (o.bH.trans hl) (o.cL.trans a.skip) (jc (m:=0) o a.qO) (a.sz hn o.size (by decide)) (o.bV a.bV),o.fr,sG,o.bP,by rw[o.dG];rfl⟩
theorem gV.ot(k:gV (F++[f]) aH lk m (L++[q]) (G++[g]))(o:wV aH lk m q g f' el)(e:f'.bP=f.bP):gV (F++[f']) aH lk m (L++[q]) (G++[g]):=by
 have hF:F.length=L.length:=by have:=k.len;rw[bA,bA]at this;exact G1 this
 have hG:G.length=L.length:=by have:=k.rF;rw[bA,bA]at this;exact G1 this
 have g0:∀{i:O} {aN:Fr},(F++[f'])[i]?=Z aN->rA (λu'=>(F++[f])[i]?=Z u') (λu'=>u'.bP=aN.bP) (λu'=>u'=aN\/i=F.length/\aN=f'):=λ{i aN} h=>by
  rcases Cq h with a|⟨a,b⟩
  exact⟨aN,rZ a,rfl,.inl rfl⟩;exact⟨f,by rw[a,kZ],by rw[b];exact e.symm,.inr ⟨a,b⟩⟩
 refine⟨by rw[bA,bA,hF];rfl,k.rF,λi p g' aN hp hg hu=>?_,λi j aN u' qK hu Aq=>?_,λaN hu=>?_⟩
 ·obtain⟨u',h1,h2,h3⟩:=g0 hu
  rcases h3 with h3|⟨h3,h4⟩
  ·rw[<-h3];exact k.ok i p g' u' hp hg h1
  ·rw[h3,hF,kZ]at hp
   rw[h3,hF,<-hG,kZ]at hg;rw[<-aT hp,<-aT hg,h4];exact⟨el,o⟩
 ·obtain⟨v,h1,h2,_⟩:=g0 hu
  obtain⟨v',h1',h2',_⟩:=g0 Aq;rw[<-h2,<-h2'];exact k.cV i j v v' qK h1 h1'
 ·obtain⟨v,h1,h2,_⟩:=g0 hu
  rw[<-h2];exact k.zero v h1
theorem UI{l:Y α}{g:α}:∀{k:O},k+1=l.length->l.set k g=l.dropLast++[g]:=λ{k} h=>by
 have gF:l≠[]:=λe=>by rw[e]at h;exact nomatch h
 have hk:k=l.dropLast.length:=by rw[iR,<-h];rfl
 conv=>lhs;rw[<-VS gF,hk,E9 _ _ (cE _),qB]
 rfl
end
section
variable{V:V2}{G:Y Gf}{q:O×aC}{lk:Y As}{W W' K K':As}{P P':J->Prop}{C':BC}
theorem gr'(be bb bx:BC){p r bB:O}{t:J×Arg×J}{f:Sv->J}(v:fP y lk L G (h+p))(ry:Rq V y lk (wW y.R f C) (dJ y.aA))(ht:uG (4+y.aF) t f)(kf:Kf (4+(y.R.length:O)) f)(xK:0<=y.bF.bP)(mQ:1<=L.length)(hp:p<=2)(hr:r<=2)(sJ:∀vs v pl t k,C (vs++[v]) pl t k->v≠0->C' vs pl t k)(uO:∀vs v pl t k,C (vs++[v]) pl t k->v=0->bx vs pl t k):JY (λ(hh:O) fO g=>A3 ((hh:J)=y.bF.bP+h) (JV y (y.eG 4 p r bB) {g with eE:=aB} hh p r) (g.eE.isSome=u)) (λhh fO g=>fP (y.rK t (p,r) bB) fO (L++[(r,aE)]) (G++[⟨be,bb,bx,hh,p,r⟩]) p) (λhh fO g=>Rq V (y.rK t (p,r) bB) fO (Mt (y.rK t (p,r) bB).R C') (dJ (y.rK t (p,r) bB).aA)) (λhh fO g=>A5 ((y.rK t (p,r) bB).aA=y.aA++[g]) ((y.rK t (p,r) bB).aF=y.aF) ((y.rK t (p,r) bB).bH=y.bH) ((y.rK t (p,r) bB).cL=y.cL) ((0<=y.bV->0<=(y.rK t (p,r) bB).bV)/\(y.rK t (p,r) bB).size<=y.size+y.R.length+5)):=by
 obtain⟨hh,fO,f0,sG,o,v',r',qF'⟩:=ja be bb bx (code:=4) (r:=r) (bB:=bB) (cK:=λs vs pl t k=>C (vs++[f s]) pl t k) (λs h v hl=>funext λvs=>funext λpl=>funext λt=>funext λk=>by
  rw[kf (wO (eQ _)) s _ v (wO (eQ _)) (O5 (eZ.mpr hl) 4)]) (by decide) v ry xK (λe=>by rw[e]at mQ;exact absurd mQ (by decide)) hp hr
 have hif:y.GH p r bB=f0:=by
  have:=(X.ix (y:=y) (n:=p) (r:=r) (bB:=bB)).1;rw[o.fr]at this;have:=List.append_cancel_left this;exact (Gw this).1.symm
 unfold X.rK X.DD;dsimp only;rw[hif];have NB:=o.fr;have Zd:=o.dG;have Rx:=o.used;have ii:=o.bP;have o':=o;generalize y.eG 4 p r bB=b at *;generalize hg:({f0 with eE:=Z (b.aH.length:J)}: Fr)=g;have jG:g.eE=Z (b.aH.length:J):=by rw[<-hg]
 have hgn:({g with eE:=aB}: Fr)=f0:=by
  rw[<-hg];show ({f0 with eE:=aB}: Fr)=f0;rw[<-Zd]
 have SE:(b.cY.jY y.aA.length g).aA=y.aA++[g]:=by
  show b.aA.set _ _=_;rw[NB,UI (by rw[bA];rfl),CT]
 have EV:fO.length=b.aH.length:=r'.elim λ_ k=>k.pS;have Qp:gV b.aA b.cY.aH (fO++[Mh (hh+p) bx]) b.aF (L++[(r,aE)]) (G++[⟨be,bb,bx,hh,p,r⟩]):=v'.fr.cY;have bl:b.bF=f0:=wB NB;obtain⟨el,fo⟩:=gV.DH (x:=b) Qp;rw[bl]at fo;rw[NB]at Qp;have vV:(fO++[Mh (hh+p) bx])[b.aH.length]?=Z (Mh (hh+p) bx):=by rw[<-EV,kZ]
 have go:wV b.cY.aH (fO++[Mh (hh+p) bx]) b.aF (r,aE) ⟨be,bb,bx,hh,p,r⟩ g el:=by
  rw[<-hg];exact⟨fo.loop,fo.aD,fo.bP,fo.params,fo.gS,fo.gE,fo.dY,fo.le,fo.fit,fo.EI,λl hl=>⟨_,(aT hl).symm,vV⟩⟩
 have gfr:=Qp.ot go (by rw[<-hg]);have ZC:(b.cY.jY y.aA.length g).bF=g:=wB SE;have Fq:g.bP=(hh:J):=by rw[<-hg];exact ii
 have su:fP (b.cY.jY y.aA.length g) (fO++[Mh (hh+p) bx]) (L++[(r,aE)]) (G++[⟨be,bb,bx,hh,p,r⟩]) p:=by
  have DA:=v'.len;have Z2:=v'.below;rw[bl,ii]at DA Z2;refine⟨by rw[SE];exact gfr,v'.es,by rw[ZC,Fq];exact DA,λi hi=>?_,v'.aF⟩;rw[ZC,Fq]at hi;exact Z2 i hi
 have ru:Rq V (b.cY.jY y.aA.length g) (fO++[Mh (hh+p) bx]) (qY (X.eB (hh+p)) (λs vs pl t k=>C (vs++[f s]) pl t k)) (dJ (y.aA++[g])):=by
  have r1:Rq V b.cY (fO++[Mh (hh+p) bx]) (qY (X.eB (hh+p)) (λs vs pl t k=>C (vs++[f s]) pl t k)) (dJ b.aA):=r'.cY _;rw[NB]at r1;refine r1.dJ λl ⟨aN,hu,k⟩=>?_;rcases oQ.mp hu with hu|hu
  ·exact N6 ⟨aN,hu,k⟩
  ·rw[iU.mp hu]at k
   rcases k with k|k
   rw[Rx]at k;exact nomatch k.1;rw[Zd]at k;exact nomatch k
 have rb:=QJ (c:=b.cY.jY y.aA.length g) (t:=t) (f:=f) (b:=aE) (l:=(b.aH.length:J)) (W':=Mt (X.eB (hh+p)) C') ru (by show uG (4+b.aF) t f;rw[o'.aF];exact ht) (lb:=⟨eQ _,.inl ⟨g,E7 _ (iU.mpr rfl),.inr jG⟩⟩) λs t' k z=>by
  by_cases hz:f s=0
  ·have e:(decide (f s≠0)==aE)=u:=by rw[hz];rfl
   rw[e];exact .uN (eQ _) _ vV (.inl ⟨g,E7 _ (iU.mpr rfl),.inr jG⟩) (uO _ _ _ _ _ z hz)
  ·have e:(decide (f s≠0)==aE)=aE:=by rw[decide_eq_true hz];rfl
   rw[e];exact sJ _ _ _ _ _ z hz
 obtain⟨b1,b2⟩:=QK (c:=b.cY.jY y.aA.length g) (op:=t.1) (n:=t.2.1.n) (d:=t.2.2) (s:=aE) (l:=(b.aH.length:J));have Bm:=(X.EJ (x:=b.cY.jY y.aA.length g) (op:=t.1) (n:=t.2.1.n) (c:=t.2.2) (s:=aE) (l:=(b.aH.length:J))).1;rw[X.Us,X.Ec]at Bm;generalize (b.cY.jY y.aA.length g).mO t.1 t.2.1.n t.2.2 aE (b.aH.length:J)=w at *;have B1:w.aA=y.aA++[g]:=b1.aA.trans SE;refine⟨hh,_,g,⟨sG,hgn▸o',by rw[jG];rfl⟩,su.same b1 b2,?_,B1,b1.aF.trans o'.aF,b1.bH.trans o'.bH,b1.cL.trans o'.cL,λq=>by rw[b1.bV];exact o'.bV q,?_⟩;rw[B1,b2,show (b.cY.jY y.aA.length g).R=X.eB (hh+p) from o'.R];exact rb;exact aL Bm (dP o'.size 2)
theorem qq(be bb bx:BC){p r:O}(a:At V x n L G (Z (h+p+1)) C)(hl:x.bH=u)(hn:n<=236)(mQ:1<=L.length){m:J}(hm:hZ m=Z (p,r))(sJ:∀vs v pl t k,C (vs++[v]) pl t k->v≠0->C' vs pl t k)(uO:∀vs v pl t k,C (vs++[v]) pl t k->v=0->bx vs pl t k):Pr V x n L G (.iff m) be bb bx aE h p r C' u:=by
 obtain⟨lk,v0,r0⟩:=a.qD hl;obtain⟨hp,hr⟩:=DN hm;have h0:=Qx v0 mQ;obtain⟨e,he,hs⟩:=wL v0 mQ;obtain⟨⟨fv,t,ry,kf⟩,v,sx,st,eC⟩:=XY v0 r0 mQ;refine⟨⟨a.fits hn,a.bV,λ_=>⟨wM hs,by rw[hm];rfl,t.GJ⟩⟩,λbB=>?_⟩;rw[DK hl];have xL:X.io m=(p,r):=by unfold X.io;rw[hm];rfl
 have hd:x.Ab (.iff m) bB=(x.pop.dC x.cD).1.rK (x.pop.dC x.cD).2 (p,r) bB:=by
  show (x.pop.dC x.cD).1.rK (x.pop.dC x.cD).2 (X.io m) bB=_;rw[xL]
 rw[hd];have ge':(x.pop.dC x.cD).1.R.length<=x.R.length:=by rw[st,DV];exact fW _ _
 generalize (x.pop.dC x.cD).2=eJ at *;generalize (x.pop.dC x.cD).1=y at *;have Hg:y.bF=x.bF:=by unfold X.bF;rw[sx.aA]
 obtain⟨hh,fO,g,⟨sG,o,ge⟩,v',r',f1,m1,l1,k1,n1,z1⟩:=gr' be bb bx (bB:=bB) v ry t kf (by rw[Hg];exact h0) mQ hp hr sJ uO;generalize y.rK eJ (p,r) bB=z at *;refine⟨g,hh,At.GU v' r' (l1.trans (sx.bH.trans hl)) (k1.trans (sx.cL.trans a.skip)) ?_ (a.sz hn (c:=5) (aL z1 (dP (eN eC ge') 5)) (by decide)) (n1 (by rw[sx.bV];exact a.bV)),by rw[f1,sx.aA],by rw[sG,Hg],o.bP,ge⟩;rw[m1,f1,sx.aA,sx.aF,bA];exact fy a.qO
end
section
variable{i:aI}
variable{V:V2}{G:Y Gf}{q:O×aC}{lk:Y As}{W W' K K':As}{P P':J->Prop}{C':BC}
theorem x9(hs:x.cL=0)(hi:i.code=5\/i.code=11):x.tT i=aE:=by
 unfold X.tT;rw[hs];have:(i.code==5||(i.code==11||false))=u:=by rcases hi with h|h<;>rw[h]<;>rfl
 rw[this];cases x.bH<;>rfl
theorem P1(hs:x.cL=0)(hi:i.code=5\/i.code=11):x.take i bB=x.Ab i bB:=by unfold X.take;rw[aR (by rw[x9 hs hi];decide)]
theorem At.Bj(a:At V x n L G ho C):x.aA.length=L.length:=by obtain⟨lk,fr,_,_⟩:=a.aP;exact fr.len
theorem At.pS(a:At V x n L G ho C):fQ (λlk=>gV x.aA x.aH lk x.aF L G) (λlk=>lk.length=x.aH.length):=by
 obtain⟨lk,fr,rl,rd⟩:=a.aP;refine⟨lk,fr,?_⟩;cases hl:x.bH with
 | true=>exact (rl hl).1.elim λ_ k=>k.pS
 | false=>exact (rd hl).elim λ_ k=>k.pS
theorem At.DH(a:At V x n (L++[q]) (G++[g]) ho C):AV (λlk el=>wV x.aH lk x.aF q g x.bF el) (λlk _=>lk.length=x.aH.length):=by obtain⟨lk,fr,e⟩:=a.pS;obtain⟨el,fo⟩:=fr.DH;exact⟨lk,el,fo,e⟩
theorem ZD(a:At V x n (L++[q]) (G++[g]) ho C):(g.hb+g.rr:J)<=x.aF+2:=by obtain⟨lk,el,fo,hl⟩:=a.DH;exact Int.add_le_add (gB (wO (eQ _)) fo.fit) (fV.mpr fo.le.2)
theorem XH(a:At V x n (L++[q]) (G++[g]) ho C)(hn:n<=236):x.D3 .aS:=by
 obtain⟨lk,el,fo,hl⟩:=a.DH;have cQ:∀{i:O} {K:As},lk[i]?=Z K->i<x.aH.length:=λh=>by rw[<-hl];exact kF h
 refine⟨a.fits hn,a.bV,λ_=>⟨by rw[a.Bj,bA];exact dL _ _,⟨el,fo.gE,cQ fo.dY⟩,λl he=>?_,by rw[fo.bP,fo.gS];exact eQ (g.hb+g.rr),by rw[fo.bP,fo.gS];exact qV (gB (ZD a) (BK (a.mx hn) 2)) (by decide)⟩⟩;obtain⟨e,e1,e2⟩:=fo.dG l he;rw[e1];exact⟨eQ e,cQ e2⟩
theorem Xc(a:At V x n (L++[q]) (G++[g]) ho C)(hE:x.bH=u->ho=Z g.rr)(lI:x.bF.eE=aB\/g.pp=g.rr)(hC:∀vs pl t k,C vs pl t k->g.be vs pl t k)(hX:∀l,x.bF.eE=Z l->∀vs pl t k,g.bx vs pl t k->g.be vs pl t k):fQ (λw=>x.Af x.bF=w.vP) (λw=>WY V x w L G g.hb g.rr g.be):=by refine⟨_,?_,em' a hE lI hC hX⟩;obtain⟨lk,el,fo,hl⟩:=a.DH;unfold X.Af;rw[fo.bP,fo.gS];rfl
theorem dq{i j:J}(h:i<=m)(k:j<=m):X.zV i j<=m:=by unfold X.zV;by_cases e:j>i;rw[aZ e];exact k;rw[aR e];exact h
theorem oy'(a:At V x n (L++[q]) (G++[g]) ho C)(hn:n<=236)(hL:1<=L.length)(hE:x.bH=u->ho=Z g.rr)(lI:x.bF.eE=aB\/g.pp=g.rr)(oU:x.bF.bP=x.iA.bF.bP+h0)(hC:∀vs pl t k,C vs pl t k->g.be vs pl t k)(hX:∀l,x.bF.eE=Z l->∀vs pl t k,g.bx vs pl t k->g.be vs pl t k):x.D3 .aS/\∀bB,At V (x.take .aS bB) (n+1) L G (Z (h0+g.rr)) g.be/\(x.take .aS bB).aA=x.aA.dropLast:=by
 refine⟨XH a hn,λbB=>?_⟩;rw[P1 a.skip (.inr rfl)];show At V (x.Af x.bF) _ _ _ _ _/\(x.Af x.bF).aA=_;obtain⟨fO,el,fo,hl⟩:=a.DH;obtain⟨w,e,c⟩:=Xc a hE lI hC hX;have nK:=ZD a;rw[e];have Z6:x.aA.length=L.length+1:=by rw[a.Bj,bA];rfl
 have jT:w.aA.length=L.length:=by rw[c.fr,iR,Z6];rfl
 have hr:w.vP=w:=by
  unfold X.vP;have:w.aA.isEmpty=aE:=by
   rw[List.isEmpty_eq_false_iff];intro q;rw[q]at jT;exact absurd (jT▸hL) (by decide)
  rw[this];rfl
 rw[hr];obtain⟨lk,r1,f1⟩:=c.aP;have Hz:w.bF=x.iA.bF:=by unfold X.bF;rw[c.fr];rfl
 have ZE:(g.hb:J)=w.bF.bP+h0:=by rw[Hz,<-oU];exact fo.bP.symm
 have hm:=c.aF;have M8:w.aF<=x.aF+2:=by rw[hm];exact dq (wO (by decide)) (by rw[pX];exact nK)
 have Hh:((g.hb+g.rr:O):J)<=w.aF:=by rw[hm];exact dt
 have F9:w.R.length=g.hb+g.rr:=by rw[c.R,zP]
 refine⟨⟨⟨lk,f1,λhl=>⟨?_,by rw[c.R];exact Rv⟩,λhl=>?_⟩,c.cL.trans a.skip,λ_=>⟨h0+g.rr,rfl,by rw[F9,pX,ZE,BJ];rfl⟩,λ_ i hi=>by rw[c.R];exact C8 (eP (eZ.mp (mZ hi (by rw[ZE];exact wO (eQ h0)))) (bU _ _)),by rw[F9];exact Hh,by rw[jT];exact n25 M8 (Z6▸a.qO),aL c.size (aL (eN a.size (fV.mp (gB nK (BK (a.mx hn) 2)))) (aL (eR (by decide:241<=262) _) (dH (PO 262 (n+1)).symm))),c.bV⟩,c.fr⟩;rw[hl]at r1;rw[c.R];exact r1;rw[hl]at r1;exact r1
end
section
variable{V:V2}{G:Y Gf}{q:O×aC}{lk:Y As}{W W' K K':As}{P P':J->Prop}{C':BC}
structure t9(V:V2)(x y:X)(lk:Y As)(W:As)(F:Fr)(e:O)(hb:O):Prop where
 aP:Rq V y lk W (λi=>dJ (x.aA.dropLast++[F]) i\/i=e)
 aH:y.aH=x.aH
 fr:y.aA.set (x.aA.length-1) F=x.aA.dropLast++[F]
 aF:y.aF=x.aF
 cL:y.cL=x.cL
 size:y.aP.length+y.aH.length+y.aA.length+y.R.length<=x.size+x.R.length+1
 R:y.R.length=x.R.length
 bH:x.bH=u->hb<=x.R.length
 zE:x.bH=aE->y.aP.length=x.aP.length/\y.aA.length=x.aA.length
theorem X2: f.lR (x.rB f):=by unfold Fr.lR X.rB;by_cases h:x.bH=u;rw[aZ h];rw[aR h]
theorem dR'{e:O}{F:Fr}(a:At V x n (L++[(r,aE)]) (G++[g]) ho C)(hE:x.bH=u->ho=Z g.rr)(fr:gV x.aA x.aH lk x.aF (L++[(r,aE)]) (G++[g]))(rl:x.bH=u->Rq V x lk (Mt x.R C) (dJ x.aA)/\Es x.R)(rd:x.bH=aE->Rq V x lk No (dJ x.aA))(fo:wV x.aH lk x.aF (r,aE) g x.bF el)(hl:x.bF.eE=Z (e:J))(hF: {x.rB x.bF with eE:=aB}= F)(hC:∀vs pl t k,C vs pl t k->g.be vs pl t k):t9 V x (x.zH (x.aA.length-1) x.bF el) lk W F e g.hb:=by
 have Hb:1<=x.aA.length:=by rw[a.Bj,bA];exact dL _ _
 have jK:x.aA.length-1+1=x.aA.length:=jH Hb;have Yn:F.gE=x.bF.gE:=by rw[<-hF];show (x.rB x.bF).gE=_;rw[(X2 (x:=x) (f:=x.bF):_=_)]
 have Zm:∀i,dJ x.aA i->dJ (x.aA.dropLast++[F]) i\/i=e:=λi p=>by
  rcases Tv Hb p with p|p|p
  ·exact .inl (N6 p)
  ·refine .inl ⟨F,E7 _ (iU.mpr rfl),.inl ⟨?_,Yn.trans p.2⟩⟩
   rw[<-hF];show (x.rB x.bF).used=u;unfold X.rB;by_cases h:x.bH=u;rw[aZ h];rw[aR h];exact p.1
  ·right;rw[hl]at p;exact (aT p).symm
 unfold X.zH;cases Bu:x.bH with
 | true=>
  rw[aZ rfl];obtain⟨h',eh,dE⟩:=a.high Bu;have e':h'=g.rr:=aT (eh.symm.trans (hE Bu));have F9:x.R.length=g.hb+g.rr:=by rw[fo.bP,e']at dE;exact pY (dE.trans (pX _ _).symm)
  obtain⟨r0,es⟩:=rl Bu;obtain⟨w2,w3,w5⟩:=oz (c:=x) r0 es a.aF;have eC:=X.AH (x:=x) (n:=x.R.length);have Bt:(x.dB x.R.length).R.length=x.R.length:=X.Gj;rw[show X.eB x.R.length=X.eB (g.hb+g.rr) from F9▸rfl]at w2;generalize x.dB x.R.length=z at *;have ZB:dJ (x.aA.dropLast++[F]) el:=⟨F,E7 _ (iU.mpr rfl),.inl ⟨by rw[<-hF];show (x.rB x.bF).used=u;unfold X.rB;rw[aZ Bu],Yn.trans fo.gE⟩⟩;have w2':Rq V (z.jY (x.aA.length-1) {x.bF with used:=u}) lk (Mt (X.eB (g.hb+g.rr)) C) (λi=>dJ (x.aA.dropLast++[F]) i\/i=e):=w2.dJ Zm;have r3:=w2'.cH (op:=259) (a:=el) (b:=.i 0) (d:=0) (W':=W) (.pP el) rfl trivial (lb:=⟨eQ _,.inl (.inl ZB)⟩) λs t k z=>.uN (eQ _) _ fo.dY (.inl (.inl ZB)) (hC _ _ _ _ z);refine⟨r3,w5.aH,?_,w5.aF,w5.cL,?_,Bt,λ_=>F9▸bU _ _,λq=>nomatch q.symm.trans Bu⟩
  ·show (z.aA.set _ _).set _ _=_
   rw[List.set_set,w5.aA,UI jK]
  ·show (z.aP++[_]).length+z.aH.length+(z.aA.set _ _).length+z.R.length<=_
   rw[bA,mI];exact n30 eC
 | false=>
  rw[aR (by decide)];exact⟨((rd Bu).lN λ_ _ _ h=>Iz h).dJ Zm,rfl,UI jK,rfl,rfl,aL (dH (hS _ _ _)) (aL (bU x.size x.R.length) (nC _)),rfl,λq=>(nomatch q.symm.trans Bu),λ_=>⟨rfl,rfl⟩⟩
theorem ow'(a:At V x n (L++[(r,aE)]) (G++[g]) ho C)(hn:n<=236)(hE:x.bH=u->ho=Z g.rr)(rG:x.bF.eE.isSome=u)(hC:∀vs pl t k,C vs pl t k->g.be vs pl t k):x.D3 .dG/\∀bB,At V (x.take .dG bB) (n+1) (L++[(r,aE)]) (G++[g]) (Z g.pp) g.bx/\rA (λf=>(x.take .dG bB).aA=x.aA.dropLast++[f]) (λf=>f.bP=x.bF.bP) (λf=>f.eE=aB):=by
 obtain⟨lk,fr,rl,rd⟩:=a.aP;obtain⟨el,fo⟩:=fr.DH;have EV:lk.length=x.aH.length:=by
  cases hl:x.bH with
  | true=>exact (rl hl).1.elim λ_ k=>k.pS
  | false=>exact (rd hl).elim λ_ k=>k.pS
 obtain⟨l,hl⟩:=rV.mp rG;obtain⟨e,ee,nK⟩:=fo.dG l hl;rw[ee]at hl;have Hb:1<=x.aA.length:=by rw[a.Bj,bA];exact dL _ _
 have oU:=fo.bP;have R1:=fo.params;have zM:=fo.fit;have cQ:e<x.aH.length:=by rw[<-EV];exact kF nK
 refine⟨⟨a.fits hn,a.bV,λ_=>⟨Hb,by rw[fo.gE];rfl,⟨e,hl,cQ⟩,by rw[oU,R1];exact eQ (g.hb+g.pp),by rw[oU,R1];exact qV (gB zM (a.mx hn)) (by decide)⟩⟩,λbB=>?_⟩;rw[P1 a.skip (.inl rfl)];have hd:x.Ab .dG bB=x.Ac (x.aA.length-1) x.bF el e (g.hb+g.pp):=by
  show x.EM x.bF=_;unfold X.EM;rw[oU,R1,hl,fo.gE];rfl
 rw[hd];unfold X.Ac;generalize hg:({x.rB x.bF with eE:=aB}: Fr)=F;have k:=dR' (W:=Mh (g.hb+g.pp) g.bx) a hE fr rl rd fo hl hg hC;generalize x.zH (x.aA.length-1) x.bF el=y at *;have r2:Rq V (y.dS e) lk (Mh (g.hb+g.pp) g.bx) (dJ (x.aA.dropLast++[F])):=k.aP.dS nK (λi hi=>hi);have fE':=X2 (x:=x) (f:=x.bF);generalize hw:((y.dS e).jY (x.aA.length-1) F).toLive (X.eB (g.hb+g.pp))=w;have wf:w.aA=x.aA.dropLast++[F]:=by rw[<-hw];exact k.fr
 have wl:w.bF=F:=wB wf;have Ag:=fo.lR fE';have Fq:F.bP=(g.hb:J):=by rw[<-hg];exact Ag.bP
 have eV':wV x.aH lk x.aF (r,aE) g F el:=by
  rw[<-hg];exact⟨Ag.loop,Ag.aD,Ag.bP,Ag.params,Ag.gS,Ag.gE,Ag.dY,Ag.le,Ag.fit,Ag.EI,λl hl=>nomatch hl⟩
 have nL:w.R=X.eB (g.hb+g.pp):=by rw[<-hw];rfl
 have KH:w.aF=x.aF:=by rw[<-hw];exact k.aF
 have frw:gV w.aA w.aH lk w.aF (L++[(r,aE)]) (G++[g]):=by
  have f0:gV (x.aA.dropLast++[F]) x.aH lk x.aF (L++[(r,aE)]) (G++[g]):=by
   have:=fr;rw[Yb (x:=x) Hb]at this;exact this.ot eV' (by rw[Fq,oU])
  have:w.aH=x.aH.set e y.aP.length:=by rw[<-hw];show y.aH.set _ _=_;rw[k.aH]
  rw[wf,this,KH];exact f0.fS
 have rww:Rq V w lk (Mt w.R g.bx) (dJ w.aA):=by rw[wf,nL,<-hw];exact r2
 refine⟨At.GU ⟨frw,by rw[nL];exact Rv,by rw[nL,zP,wl,Fq];rfl,λi hi=>?_,by rw[nL,zP,KH];exact zM⟩ rww (by rw[<-hw];rfl) (by rw[<-hw];exact k.cL.trans a.skip) (by rw[KH,wf,bA,iR];show x.aF+((x.aA.length-1+1:O):J)<=_;rw[jH Hb];exact fz a.qO) ?_ (by rw[<-hw];exact eQ y.aP.length),F,wf,by rw[Fq,oU],by rw[<-hg]⟩
 ·rw[wl,Fq]at hi
  rw[nL];exact C8 (eP (eZ.mp hi) (bU _ _))
 ·have hws:w.size=y.aP.length+y.aH.length+(g.hb+g.pp)+y.aA.length:=by
   rw[<-hw];show y.aP.length+(y.aH.set _ _).length+(X.eB (g.hb+g.pp)).length+(y.aA.set _ _).length=_;rw[zP,mI,mI]
  have ks:=k.size;rw[hws];cases Bu:x.bH with
  | true=>
   rw[k.R]at ks;exact a.sz hn (c:=3) (n32 ks (k.bH Bu) fo.le.1) (by decide)
  | false=>
   obtain⟨d2,d3⟩:=k.zE Bu;rw[d2,d3,k.aH];exact a.Oc (n33 (fV.mp (gB zM (a.mx hn))))
end
def uE(h:aG O)(r:O):Prop:=h=aB\/h=Z r
class inductive eO (V:V2):Y (O×aC)->Y Gf->O->aG O->Y aI->aG O->BC->BC->Prop
 | nil{L G b h C:_}: eO V L G b h [] h C C
 | dI{L G b h h1 h2 ca cb C C1 C2:_}: eO V L G b h ca h1 C C1->eO V L G b h1 cb h2 C1 C2->eO V L G b h (ca++cb) h2 C C2
 | eY{L G:_}{b h:O}{h' i C C':_}: iS [i]->(∀x n,At V x n L G (Z h) C->x.bH=u->n<=236->x.bF.bP=(b:J)->rX V x n L G i h' C')->eO V L G b (Z h) [i] h' C C'
 | lN{L G b h code h' C C0 C':_}: (∀vs pl t k,C vs pl t k->C0 vs pl t k)->eO V L G b h code h' C0 C'->eO V L G b h code h' C C'
 | zE{L G b code h' C C':_}: iS code->eO V L G b aB code h' C C'
 | block{L G b h m p r ca h1 C C1:_}(be bb bx:BC):hZ m=Z (p,r)->eO V (L++[(r,aE)]) (G++[⟨be,bb,bx,b+h,p,r⟩]) (b+h) (Z p) ca h1 C C1->uE h1 r->(∀vs pl t k,C1 vs pl t k->be vs pl t k)->eO V L G b (Z (h+p)) (.block m::(ca++[.aS])) (Z (h+r)) C be
 | loop{L G b h m p ca h1 C C1:_}(be bb bx:BC):hZ m=Z (p,p)->(∀vs pl t k,C vs pl t k->kk bb vs pl t k)->eO V (L++[(p,u)]) (G++[⟨be,bb,bx,b+h,p,p⟩]) (b+h) (Z p) ca h1 (kk bb) C1->uE h1 p->(∀vs pl t k,C1 vs pl t k->be vs pl t k)->eO V L G b (Z (h+p)) (.loop m::(ca++[.aS])) (Z (h+p)) C be
 | iff{L G b h m p ca h1 C C0 C1:_}(be bb bx:BC):hZ m=Z (p,p)->(∀vs v pl t k,C (vs++[v]) pl t k->v≠0->C0 vs pl t k)->(∀vs v pl t k,C (vs++[v]) pl t k->v=0->bx vs pl t k)->eO V (L++[(p,aE)]) (G++[⟨be,bb,bx,b+h,p,p⟩]) (b+h) (Z p) ca h1 C0 C1->uE h1 p->(∀vs pl t k,C1 vs pl t k->be vs pl t k)->(∀vs pl t k,bx vs pl t k->be vs pl t k)->eO V L G b (Z (h+p+1)) (.iff m::(ca++[.aS])) (Z (h+p)) C be
 | dG{L G b h m p r ca h1 cb h2 C C0 C1 C2:_}(be bb bx:BC):hZ m=Z (p,r)->(∀vs v pl t k,C (vs++[v]) pl t k->v≠0->C0 vs pl t k)->(∀vs v pl t k,C (vs++[v]) pl t k->v=0->bx vs pl t k)->eO V (L++[(r,aE)]) (G++[⟨be,bb,bx,b+h,p,r⟩]) (b+h) (Z p) ca h1 C0 C1->uE h1 r->(∀vs pl t k,C1 vs pl t k->be vs pl t k)->eO V (L++[(r,aE)]) (G++[⟨be,bb,bx,b+h,p,r⟩]) (b+h) (Z p) cb h2 bx C2->uE h2 r->(∀vs pl t k,C2 vs pl t k->be vs pl t k)->eO V L G b (Z (h+p+1)) (.iff m::(ca ++ .dG::(cb++[.aS]))) (Z (h+r)) C be
theorem eO.vN{V:V2}{G:Y Gf}{b:O}{h:aG O}{C':BC}(s:eO V L G b h code h' C C'):iS code:=by
 induction s with
 | nil=>exact .nil
 | dI _ _ i1 i2=>exact .dI i1 i2
 | eY b _=>exact b
 | lN _ _ i=>exact i
 | zE b=>exact b
 | block _ _ _ _ _ _ _ i=>exact .uH (.inl rfl) i
 | loop _ _ _ _ _ _ _ _ i=>exact .uH (.inr (.inl rfl)) i
 | iff _ _ _ _ _ _ _ _ _ _ i=>exact .uH (.inr (.inr rfl)) i
 | dG _ _ _ _ _ _ _ _ _ _ _ _ i j=>exact .dG i j
section
variable{V:V2}{x y z:X}{n:O}{L:Y (O×aC)}{G:Y Gf}{q:O×aC}{g:Gf}{C C':BC}{ho rH:aG O}{Q:X->Prop}
theorem At.hC'(a:At V x n L G ho C){m:O}(h:n<=m):At V x m L G ho C:=
 ⟨a.aP,a.skip,a.high,a.below,a.aF,gB a.qO (BK (fV.mpr h) 3),aL a.size (yQ _ (gP h)),a.bV⟩
theorem At.lN(a:At V x n L G ho C)(h:∀vs pl t k,C vs pl t k->C' vs pl t k):At V x n L G ho C':=by obtain⟨lk,fr,rl,rd⟩:=a.aP;exact⟨⟨lk,fr,λq=>⟨(rl q).1.lN λs t k z=>h _ _ _ _ z,(rl q).2⟩,rd⟩,a.skip,a.high,a.below,a.aF,a.qO,a.size,a.bV⟩
theorem IZ(b:iS code)(a:At V x n L G ho C)(hn:n+code.length<=236)(hd:x.bH=aE){h':aG O}(hQ:∀y,At V y (n+code.length) L G h' C'->iC x y->Q y):X.wp Q code x:=
 dE' b hd (by rw[a.skip];exact mY _) (a.fits (aL (bU _ _) hn)) a.bV (hQ x ((a.zE hd).hC' (bU _ _)) (.refl x))
theorem iC.block{x1:X}{f:Fr}(h:x1.aA=x.aA++[f])(s:iC x1 y):iC x y.iA/\f.lR y.bF:=by
 have hl:x1.aA.length=x.aA.length+1:=by rw[h,bA];rfl
 have hy:y.aA.length-1=x.aA.length:=by rw[s.1,hl];rfl
 refine⟨⟨by show y.aA.dropLast.length=_;rw[iR,hy],λk g hg=>?_⟩,?_⟩
 ·obtain⟨g',h1,h2⟩:=s.2 k g (by rw[h];exact rZ hg)
  refine⟨g',?_,h2⟩;show y.aA.dropLast[k]?=_;rw[Gx,aZ (hy▸kF hg)];exact h1
 ·have:=cp s (by rw[hl];exact dL _ _)
  rw[wB h]at this;exact this
theorem MY{x1:X}(hx:x1.aA=x.aA++[f])(s:iC x1 y)(hf:f.bP=x.bF.bP+h0)(jT:1<=x.aA.length)(lI:f.eE=aB\/g.pp=g.rr)(a:At V y n (L++[q]) (G++[g]) ho C)(hn:n<=235)(hL:1<=L.length)(hE:uE ho g.rr)(hC:∀vs pl t k,C vs pl t k->g.be vs pl t k)(hX:∀l,f.eE=Z l->∀vs pl t k,g.bx vs pl t k->g.be vs pl t k)(hQ:∀z,At V z (n+1) L G (Z (h0+g.rr)) g.be->iC x z->Q z):X.wp Q [.aS] y:=by
 obtain⟨s1,s2⟩:=iC.block hx s;have l:=s2;unfold Fr.lR at l;have he:y.bF.eE=f.eE:=by rw[l]
 obtain⟨c,st⟩:=oy' (h0:=h0) a (nP hn) hL (λhl=>by
  rcases hE with e|e
  ·obtain⟨hh,e2,_⟩:=a.high hl
   exact nomatch e.symm.trans e2
  ·exact e) (by rw[he];exact lI) (by rw[NW s1 jT,<-hf,l]) hC (by rw[he];exact hX)
 exact⟨c,λbB=>hQ _ (st bB).1 (s1.trans (.of_eq (st bB).2))⟩
end
section
variable{b:O}
variable{V:V2}{G:Y Gf}{q:O×aC}{C':BC}{rH:aG O}{Q:X->Prop}
theorem Bb{i:aI}{ca:Y aI}: (i::(ca++[aI.aS])).length=ca.length+2:=by rw[wP,bA];rfl
theorem MT{hh:O}(e:(hh:J)=x.bF.bP+h)(hb:x.bF.bP=(b:J)):hh=b+h:=pY (e.trans (hb▸(pX b h).symm))
theorem Jc: 1<=(L++[q]).length:=by rw[bA];exact dL _ _
theorem mS'{h:aG O}(s:eO V L G b h code h' C C'):∀{x:X} {n:O} {Q:X->Prop},At V x n L G h C->x.bF.bP=(b:J)->n+code.length<=236->1<=L.length->(∀y,At V y (n+code.length) L G h' C'->iC x y->Q y)->X.wp Q code x:=by
 induction s with
 | nil=>exact λa _ _ _ hQ=>hQ _ a (.refl _)
 | dI s1 s2 i1 i2=>
  intro x n Q a hb hn h1 hQ;rw[bA,<-gC]at hn hQ;rw[X.AL];exact i1 a hb (aL (bU _ _) hn) h1 λy ay sy=>i2 ay ((NW sy (a.Bj▸h1)).trans hb) hn h1 λz az sz=>hQ z az (sy.trans sz)
 | eY bl st=>
  intro x n Q a hb hn h1 hQ;cases hl:x.bH with
  | true=>
   obtain⟨c,t⟩:=st x n a hl (aL (bU _ _) hn) hb;exact⟨c,λbB=>hQ _ (t bB).1 (t bB).2⟩
  | false=>exact IZ bl a hn hl hQ
 | lN hw s ih=>
  intro x n Q a hb hn h1 hQ;exact ih (a.lN hw) hb hn h1 hQ
 | zE bl=>
  intro x n Q a hb hn h1 hQ;cases hl:x.bH with
  | true=>
   obtain⟨hh,e,_⟩:=a.high hl;exact nomatch e
  | false=>exact IZ bl a hn hl hQ
 | block be bb bx hm s he hC ih=>
  intro x n Q a hb hn h1 hQ;cases hl:x.bH with
  | false=>exact IZ (.uH (.inl rfl) s.vN) a hn hl hQ
  | true=>
   rw[Bb,TM]at hn hQ;obtain⟨c,st⟩:=os' be bb bx a hl (Nl hn) (λe=>by rw[e]at h1;exact absurd h1 (by decide)) hm;refine⟨c,λbB=>?_⟩;obtain⟨f,hh,a1,f1,f2,f3,f4⟩:=st bB;cases MT f2 hb;rw[X.AL];refine ih a1 (by rw[wB f1];exact f3) (kT hn) Jc λy ay sy=>?_;exact MY f1 sy (f3.trans f2) (by rw[a.Bj];exact h1) (.inl (c9.mp (by rw[f4];decide))) ay (PI hn) h1 he hC (λl e=>by rw[e]at f4;exact nomatch f4) hQ
 | loop be bb bx hm hB s he hC ih=>
  intro x n Q a hb hn h1 hQ;cases hl:x.bH with
  | false=>exact IZ (.uH (.inr (.inl rfl)) s.vN) a hn hl hQ
  | true=>
   rw[Bb,TM]at hn hQ;obtain⟨c,st⟩:=oz' be bb bx a hl (Nl hn) (λe=>by rw[e]at h1;exact absurd h1 (by decide)) hm hB;refine⟨c,λbB=>?_⟩;obtain⟨f,hh,a1,f1,f2,f3,f4⟩:=st bB;cases MT f2 hb;rw[X.AL];refine ih a1 (by rw[wB f1];exact f3) (kT hn) Jc λy ay sy=>?_;exact MY f1 sy (f3.trans f2) (by rw[a.Bj];exact h1) (.inl (c9.mp (by rw[f4];decide))) ay (PI hn) h1 he hC (λl e=>by rw[e]at f4;exact nomatch f4) hQ
 | iff be bb bx hm sJ uO s he hC hX ih=>
  intro x n Q a hb hn h1 hQ;cases hl:x.bH with
  | false=>exact IZ (.uH (.inr (.inr rfl)) s.vN) a hn hl hQ
  | true=>
   rw[Bb,TM]at hn hQ;obtain⟨c,st⟩:=qq be bb bx a hl (Nl hn) h1 hm sJ uO;refine⟨c,λbB=>?_⟩;obtain⟨f,hh,a1,f1,f2,f3,f4⟩:=st bB;cases MT f2 hb;rw[X.AL];refine ih a1 (by rw[wB f1];exact f3) (kT hn) Jc λy ay sy=>?_;exact MY f1 sy (f3.trans f2) (by rw[a.Bj];exact h1) (.inr rfl) ay (PI hn) h1 he hC (λ_ _=>hX) hQ
 | @dG L G b h m p r ca k1 cb k2 C C0 C1 C2 be bb bx hm sJ uO s he hC s2 pN hC3 ih SP=>
  intro x n Q a hb hn h1 hQ;cases hl:x.bH with
  | false=>exact IZ (.dG s.vN s2.vN) a hn hl hQ
  | true=>
   have dE:(aI.iff m::(ca ++ .dG::(cb++[.aS]))).length=ca.length+cb.length+3:=by
    rw[wP,bA,wP,bA,<-gC,<-gC];rfl
   rw[dE,n29]at hn hQ;have F5:n+1+ca.length+1<=236:=aL (bU _ _) (kT hn);obtain⟨c,st⟩:=qq be bb bx a hl (Nl F5) h1 hm sJ uO;refine⟨c,λbB=>?_⟩;obtain⟨f,hh,a1,f1,f2,f3,f4⟩:=st bB;cases MT f2 hb;have jT:1<=x.aA.length:=by rw[a.Bj];exact h1
   rw[X.AL];refine ih a1 (by rw[wB f1];exact f3) (kT F5) Jc λy ay sy=>?_;obtain⟨t1,t2⟩:=iC.block f1 sy;unfold Fr.lR at t2;obtain⟨c2,BD⟩:=ow' ay (kT F5) (λhl=>by
    rcases he with e|e
    ·obtain⟨hh,e2,_⟩:=ay.high hl
     exact nomatch e.symm.trans e2
    ·exact e) (by rw[t2];exact f4) hC
   refine⟨c2,λx7=>?_⟩;obtain⟨a2,g,g1,g2,g3⟩:=BD x7;have KJ:y.bF.bP=f.bP:=by rw[t2]
   rw[X.AL];refine SP a2 (by rw[wB g1,g2,KJ];exact f3) (kT hn) Jc λz az sz=>?_;exact MY (x:=y.iA) (h0:=h) g1 sz (by rw[g2,KJ,NW t1 jT];exact f3.trans f2) (by rw[t1.1];exact jT) (.inl g3) az (PI hn) h1 pN hC3 (λl e=>by rw[g3]at e;exact nomatch e) λw aw sw=>hQ w aw (t1.trans sw)
end
structure yU(V:V2)(y:X):Prop where
 Ku:EC (λks lk:Y As=>Rz V y.aP y.aH y.bV y.aF ks lk No (λ_=>False))
 aF:2<=y.aF
 qO:y.aF<=240
 size:y.aP.length+y.aH.length<62200
section
variable{V:V2}{C':BC}
theorem gz':fP X.gR [] [] [] 0:=
 ⟨⟨rfl,rfl,λk p g f hp=>(nomatch hp),λi j f g _ hf=>(nomatch hf),λf hf=>(nomatch hf)⟩,λh e he=>(nomatch he),rfl,λi hi=>absurd (show (i:J)<0 from hi) (oD.mpr (eQ _)),mY _⟩
theorem gy'{P:J->Prop}(h:∀s t k,V.bK s t k->C [] (kR s) t k):Rq V X.gR [] (Mt X.gR.R C) P:=
 ⟨[],rfl,rfl,mY _,mY _,λj r K hr=>(nomatch hr),λl p K hp=>(nomatch hp),h⟩
theorem jW'{l:J}: ¬ dJ [] l:=λ⟨f,hf,_⟩=>nomatch hf
theorem hw'(hb:g.hb=0)(hr:g.rr=2)(lI:y.bF.eE=aB)(a:At V y n [(2,aE)] [g] ho C)(hn:n<=236)(hE:uE ho 2)(hC:∀vs pl t k,C vs pl t k->g.be vs pl t k)(hH:∀aN v pl t k,g.be [aN,v] pl t k->V.H (Z (aN,v)) t):X.wp (yU V) [.aS] y:=by
 have a':At V y n ([]++[(2,aE)]) ([]++[g]) ho C:=a;refine⟨XH a' hn,λbB=>?_⟩;rw[P1 a.skip (.inr rfl)];show yU V (y.Af y.bF);obtain⟨w,e,c⟩:=Xc (L:=[]) (G:=[]) a' (λhl=>by
  rcases hE with e|e
  ·obtain⟨hh,e2,_⟩:=a.high hl
   exact nomatch e.symm.trans e2
  ·exact hr▸e) (.inl lI) hC (λl q=>nomatch lI.symm.trans q)
 rw[e];rw[hb,hr]at c;have Am:w.aA=[]:=by
  rw[c.fr];have:=a.Bj;exact Dr (by rw[iR,this];rfl)
 obtain⟨lk,r1,f1⟩:=c.aP;rw[Am]at r1;have r2:Rq V w lk (Wl w.bH (Mh (0+2) g.be)) (λ_=>False):=r1.dJ λl p=>jW' p;have Hx:w.aP.length+w.aH.length<=62096:=aL (aL (bU _ w.R.length) (bU _ w.aA.length)) (aL c.size (aL (dP (aL a.size (yQ 262 (gP hn))) 2) (by decide)));have hym:0<=y.aF:=gB (eQ _) a.aF;have hm:2<=w.aF:=by rw[c.aF];exact dt
 have KA:w.aF<=240:=by
  rw[c.aF];refine dq ?_ (by decide);exact gB (a.mx hn) (by decide)
 unfold X.vP;rw[Am];cases hl:w.bH with
 | true=>
  rw[aZ (by rfl)];rw[hl]at r2;obtain⟨ks,k⟩:Rq V (w.cH 267 4 (.i 2) 0) lk No (λ_=>False):=r2.cH .ret rfl ⟨⟨by decide,mZ (by decide) (CR hm 4)⟩,by decide,mZ (by decide) (CR hm 4)⟩ trivial λs t k z=>hH _ _ _ _ _ z;exact⟨⟨ks,lk,k⟩,hm,KA,by show (w.aP++[_]).length+w.aH.length<_;rw[bA];show w.aP.length+1+_<_;rw[hS];exact cM (gP Hx) (by decide)⟩
 | false=>
  rw[aR (by decide)];rw[hl]at r2;obtain⟨ks,k⟩:=r2;exact⟨⟨ks,lk,k⟩,hm,KA,cM Hx (by decide)⟩
theorem cI'(be bb bx:BC)(s:eO V [(2,aE)] [⟨be,bb,bx,0,0,2⟩] 0 (Z 0) code h' C C')(hn:code.length<=236)(he:uE h' 2)(hC:∀vs pl t k,C' vs pl t k->be vs pl t k)(hH:∀aN v pl t k,be [aN,v] pl t k->V.H (Z (aN,v)) t)(hI:∀s t k,V.bK s t k->C [] (kR s) t k):(X.gR.eG 2 0 2 bB).wp (yU V) (code++[.aS]):=by obtain⟨hh,fO,f,sG,o,v',r',_⟩:=iz be bb bx (code:=2) (p:=0) (r:=2) (h0:=0) (bB:=bB) (by decide) gz' (gy' hI) (mY _) (λ_=>rfl) (by decide) (by decide);cases (pY sG:hh=0);have a0:At V (X.gR.eG 2 0 2 bB) 0 [(2,aE)] [⟨be,bb,bx,0,0,2⟩] (Z 0) C:=At.GU v' (o.R▸r') (o.bH.trans rfl) (o.cL.trans rfl) (by rw[o.aF,o.fr];show (0:J)+1<=0+3;decide) (aL o.size (by decide)) (o.bV (mY _));have Am:(X.gR.eG 2 0 2 bB).aA=[]++[f]:=o.fr;have fn':=o.dG;have hhe:=o.bP;generalize X.gR.eG 2 0 2 bB=x at *;rw[X.AL];refine mS' s a0 (by rw[wB Am];exact hhe) (by rw[nQ];exact hn) (cE _) λy ay sy=>?_;have l:=(iC.block (x:=X.gR) Am sy).2;unfold Fr.lR at l;exact hw' rfl rfl (by rw[l];exact fn') ay (by rw[nQ];exact hn) he hC hH
end
namespace RK
variable{f:J->J}
noncomputable def res(f:J->J):RK->RK
 | pP l=>pP (f l)
 | oZ b l x=>oZ b (f l) x
 | hO a ls=>hO a (ls.map f)
 | br op b l x y=>br op b (f l) x y
 | oT op b l x n=>oT op b (f l) x n
 | q=>q
theorem kD'{q:RK}(h:q.ok m):(q.res f).ok m:=by
 cases q with
 | hO a ls=>exact⟨h.1,by rw[cJ];exact h.2.1,λe=>h.2.2 (yl.mp e)⟩
 | _=>exact h
theorem tc(h:ls≠[]):(if a<(ls.length:J)-1 then a.toNat else ls.length-1)<ls.length:=by have hp:=yg.mpr h;by_cases e:a<(ls.length:J)-1;rw[aZ e];exact dn hp e;rw[aR e];exact CX hp CW
theorem pg'(h:ls≠[]):tg a (ls.map f)=f (tg a ls):=by have hl:=tc (a:=a) h;unfold tg;rw[cJ,sW,sW,fJ,cS hl];rfl
theorem kF'{q:RK}(o:q.ok m){H:tG->Tl->Prop}{N:As}{eV J':J->As}{s:Sv}{t:Tl}{k:O}(h:q.wp H N eV s t k)(hJ:∀l s t k,eV l s t k->J' (f l) s t k):(q.res f).wp H N J' s t k:=by
 cases q with
 | pP l=>exact hJ _ _ _ _ h
 | oZ=>exact B2 h (hJ _ _ _ _) id
 | br=>exact B2 h (hJ _ _ _ _) id
 | oT=>exact B2 h (hJ _ _ _ _) id
 | hO a ls=>
  show J' (tg (s a) (ls.map f)) s t k;rw[pg' o.2.2];exact hJ _ _ _ _ h
 | _=>exact h
end RK
section
variable{r:dF}
theorem T5(h1:vZ r.op=aE)(h2:r.op≠262):A9 aP aH r=r:=by unfold A9;rw[aR (by rw[h1];decide),aR h2]
theorem OI(h1:vZ r.op=u):A9 aP aH r= {r with a:=Df aP aH r.a}:=by unfold A9;rw[aZ h1]
theorem IC(h:(!b&&op != 262)=u):b=aE/\op≠262:=⟨(Ov b).mp (AM.mp h).1,Dy.mp (AM.mp h).2⟩
theorem kE'{q:RK}(o:q.ok m):A9 aP aH q.row=(q.res (Df aP aH)).row:=by
 cases q with
 | pP l=>exact OI rfl
 | oZ b l x=>cases b<;>exact OI rfl
 | hO a ls=>rfl
 | br op b l x y=>rcases o.1 with rfl|rfl<;>cases b<;>exact OI rfl
 | oT op b l x n=>rcases o.1 with rfl|rfl<;>cases b<;>exact OI rfl
 | dX op a x y=>
  obtain⟨a1,b1⟩:=IC (rY (by decide:(jL.all λop=> !vZ op&&op != 262)=u) o.1);exact T5 a1 b1
 | pW op a x n=>
  obtain⟨a1,b1⟩:=IC (rY (by decide:(jL.all λop=> !vZ (16384+op)&&(16384+op) != 262)=u) o.1);exact T5 a1 b1
 | _=>exact T5 rfl (bM rfl)
end
def Go(n:O)(F:O->As)(j:O):J->As:=λl s t k=>∃q k2:O,l=(q:J)/\q<n/\F q s t k2/\k2<=max k 2/\(k=k2/\j<q\/k<k2)
structure Pp(V:V2)(bG:Y dF)(F:O->As)(slots:J):Prop where
 row:∀(j:O) s t k,F j s t k->rA (λq:RK=>bG[j]?=Z q.row) (λq=>q.ok slots) (λq=>q.wp V.H (F (j+1)) (Go bG.length F j) s t k)
 start:∀s t k,V.bK s t k->F 0 s t k
section
variable{V:V2}{ks lk:Y As}
theorem P8{t:Tl}(h:(ks[j]?.getD No) s t k):j<ks.length:=by by_cases e:j<ks.length;exact e;rw[lF (kU.mp e)]at h;exact Iz h
theorem ck(z:Rz V y.aP y.aH y.bV y.aF ks lk No (λ_=>False)){j:O}{l:J}{s:Sv}{t:Tl}{k:O}(h:Jm y.aH lk (λ_=>False) j l s t k):Go y.aP.length (λj=>ks[j]?.getD No) j (wA y.aH l) s t k:=by
 cases h with
 | uN h0 K hl hp h=>
  obtain⟨q,hq,hj⟩:=hp.resolve_left id;have e:wA y.aH l=q:=by unfold wA;rw[hq];rfl
  rcases z.cT _ _ _ hq hl with e1|⟨q',e',_,hK⟩
  ·exact absurd (e1▸eQ q) (by decide)
  ·have:=hK s t k h
   rw[<-pY e']at this;exact⟨q,k,e,z.len▸P8 this,this,Nat.le_max_left _ _,.inl ⟨rfl,hj⟩⟩
 | tI h0 K hl q hp hk h=>
  have e:wA y.aH l=q:=by unfold wA;rw[hp];rfl
  rcases z.cT _ _ _ hp hl with e1|⟨q',e',_,hK⟩
  ·exact absurd (e1▸eQ q) (by decide)
  ·have:=hK s t _ h
   rw[<-pY e']at this;exact⟨q,k+1,e,z.len▸P8 this,this,aL hk (zb _ _),.inr (iB k)⟩
theorem RK.gU'{c:RK}(o:c.ok m)(e:c.row.op=259):c= .pP c.row.a:=by
 cases c with
 | pP l=>rfl
 | dX op a x y=>exact absurd (e▸o.1:(259:J)∈jL) (by decide)
 | pW op a x y=>exact absurd e (Dy.mp (rY (by decide:(jL.all λop=>(16384+op) != 259)=u) o.1))
 | oZ b l x=>cases b<;>exact absurd e (bM rfl)
 | br op b l x y=>exact absurd e (by rcases o.1 with rfl|rfl<;>cases b<;>exact bM rfl)
 | oT op b l x n=>exact absurd e (by rcases o.1 with rfl|rfl<;>cases b<;>exact bM rfl)
 | _=>exact absurd e (bM rfl)
theorem eX'{k3 q:O}(h:k=k2/\j<q\/k<k2)(g:k2=k3/\q<p\/k2<k3):k=k3/\j<p\/k<k3:=
 h.elim (λa=>g.imp (λb=>⟨a.1.trans b.1,bT a.2 b.2⟩) λb=>a.1▸b) λa=>.inr (g.elim (λb=>b.1▸a) (bT a))
theorem pj'(z:Rz V y.aP y.aH y.bV y.aF ks lk No (λ_=>False)){j:O}{l:J}{s:Sv}{t:Tl}{k:O}(h:Jm y.aH lk (λ_=>False) j l s t k)(n:O):Go y.aP.length (λj=>ks[j]?.getD No) j (En y.aP y.aH n (wA y.aH l)) s t k:=by
 induction n with
 | zero=>exact ck z h
 | succ n ih=>
  obtain⟨q,k2,e,hq,hF,hk,ho⟩:=ih;show Go _ _ j (Ep y.aP y.aH (En y.aP y.aH n (wA y.aH l))) s t k;rw[e];unfold Ep;rw[Gv,cS hq];dsimp only;by_cases gX:y.aP[q].op=259
  ·rw[aZ gX]
   have Hu:q<ks.length:=z.len.symm▸hq;obtain⟨c,hr,o,w⟩:=z.row q _ _ (cS hq) (cS Hu);have Ym:(ks[q]?.getD No) s t k2:=hF;rw[cS Hu]at Ym;have w1:=w s t k2 Ym;rw[hr]at gX ⊢;have jm:Jm y.aH lk (λ_=>False) q c.row.a s t k2:=by
    rw[RK.gU' o gX]at w1;exact w1
   obtain⟨q3,k3,e3,hq3,hF3,tO,Ho⟩:=ck z jm;exact⟨q3,k3,e3,hq3,hF3,aL tO (Vl.mpr ⟨hk,zb _ _⟩),eX' ho Ho⟩
  ·rw[aR gX]
   exact⟨q,k2,rfl,hq,hF,hk,ho⟩
theorem yU.Mj(f:yU V y):jO λF=>Pp V (BA y.aP y.aH) F (4+y.aF):=by
 obtain⟨ks,lk,z⟩:=f.Ku;refine⟨λj=>ks[j]?.getD No,λj s t k h=>?_,z.st⟩;have hk:j<ks.length:=P8 h;have hj:j<y.aP.length:=z.len▸hk;obtain⟨c,hr,o,w⟩:=z.row j _ _ (cS hj) (cS hk);have h':(ks[j]?.getD No) s t k:=h;rw[cS hk]at h';refine⟨c.res (Df y.aP y.aH),?_,RK.kD' o,RK.kF' o (w s t k h') λl s t k q=>?_⟩
 ·unfold BA
  rw[fJ,cS hj,hr];exact aW Z (kE' o)
 ·have:=pj' z q 8
  rw[show (BA y.aP y.aH).length=y.aP.length from cJ _];exact this
end
end
section
variable{q:O}
noncomputable def mu(n j k:O):O:=(2-k)*n+(n-j)
theorem iG': mu n j k<=3*n:=aL (eN (zn n (fW 2 k)) (fW n j)) (dH (zy 2 n).symm)
theorem ez(h:j<n)(g:j<q):mu n q k<mu n j k:=yO (zv h g) _
theorem iH'(h:j<n):0<mu n j k:=eP (Lb h) (dL _ _)
theorem iF'(hj:j<n)(hk:k<=2)(jU:k2<=max k 2)(h:k=k2/\j<q\/k<k2):mu n q k2<mu n j k:=
 h.elim (λh=>h.1▸ez hj h.2) λh=>
  cM (aL (eR (fW n q) _) (aL (dH (zy _ n).symm) (zn n (zv (eP h (aL jU (Vl.mpr ⟨hk,cE 2⟩))) h)))) (PK (Lb hj))
theorem Go.B9{F:O->As}{l:J}{s:Sv}{t:Tl}(h:Go n F j l s t k)(hj:j<n)(hk:k<=2):Pv (λq k2:O=>l=(q:J)) (λq _=>q<n) (λq k2=>F q s t k2) (λ_ k2=>k2<=2) (λq k2=>mu n q k2<mu n j k):=by obtain⟨q,k2,h1,h2,h3,h4,h5⟩:=h;exact⟨q,k2,h1,h2,h3,aL h4 (Vl.mpr ⟨hk,cE 2⟩),iF' hj hk h4 h5⟩
set_option genInjectivity false
set_option genSizeOf false
structure BF where
 code:J
 params:O
 gS:O
 iH:O
 fC:O
 aS:O
structure BS where
 pc:O
 st:Y J
 pl:Y J
 fr:Y BF
 eJ:Tl
inductive BO where
 | lB(r:tG)(t:Tl)
 | to(g:BS)
 | mM
def B8(st:Y J):tG:=Z ((jF 0 2 st).getD 0 0,(jF 0 2 st).getD 1 0)
noncomputable def cR(st:Y J):J:=st.getLast?.getD 0
def BS.jA(g:BS)(d:O):BO:=
 if d=g.fr.length then .lB (B8 g.st) g.eJ
 else match g.fr[g.fr.length-1-d]? with
  | none=>.mM
  | some f=>if f.code=3 then .to ⟨f.fC+1,jF f.iH f.params g.st,g.pl,g.fr.take (g.fr.length-1-d)++[f],g.eJ⟩
   else .to ⟨f.aS+1,jF f.iH f.gS g.st,g.pl,g.fr.take (g.fr.length-1-d),g.eJ⟩
noncomputable def BS.pop(g:BS):BS:= {g with st:=g.st.dropLast}
noncomputable def BS.push(g:BS)(v:J):BS:= {g with st:=g.st++[v]}
def BS.open(g:BS)(code m:J)(fC aS:O):BS:= {g with fr:=g.fr++[⟨code,(X.io m).1,(X.io m).2,g.st.length-(X.io m).1,fC,aS⟩]}
end
variable{s':Sv}{t t':Tl}{q:RK}{cK:Sv->BC}{sz:O}
def lV(en el:O->aG O)(g:BS)(fC:O):aI->BO
 | .const n=>.to (g.push (n.fmod 4294967296))
 | .get i=>.to (g.push (g.pl[i.toNat]?.getD 0))
 | .set i=>.to {g.pop with pl:=g.pl.set i.toNat (cR g.st)}
 | .mF i=>.to {g with pl:=g.pl.set i.toNat (cR g.st)}
 | .drop=>.to g.pop
 | .kI=>.to (g.pop.pop.pop.push (if cR g.st≠0 then cR g.pop.pop.st else cR g.pop.st))
 | .br d=>g.jA d
 | .gZ d=>if cR g.st=0 then .to g.pop else g.pop.jA d
 | .hO ds=>g.pop.jA (ds.getD (if cR g.st<(ds.length:J)-1 then (cR g.st).toNat else ds.length-1) 0)
 | .ret=>.lB (B8 g.st) g.eJ
 | .qS=>.lB aB g.eJ
 | .pA=>.to g
 | .dX op=>.to (g.pop.pop.push (kS op (cR g.pop.st) (cR g.st)))
 | .jQ=>.to (g.pop.push (uL (cR g.st)))
 | .call=>.to { (g.pop.pop.push (cR g.st)).push ((cR g.pop.st+1).fmod dQ) with eJ:=g.eJ++[(cR g.pop.st,cR g.st)]}
 | .block m=>match en fC with
  | none=>.mM
  | some e=>.to (g.open 2 m fC e)
 | .loop m=>match en fC with
  | none=>.mM
  | some e=>.to (g.open 3 m fC e)
 | .iff m=>match en fC with
  | none=>.mM
  | some e=>if cR g.st=0 then .to {g.pop.open 4 m fC e with pc:=(el fC).elim e (· + 1)} else .to (g.pop.open 4 m fC e)
 | .dG=>match g.fr.getLast? with
  | none=>.mM
  | some f=>.to {g with pc:=f.aS}
 | .aS=>if g.fr=[] then .lB (B8 g.st) g.eJ else .to {g with fr:=g.fr.dropLast}
def AZ(bd:Y aI)(en el:O->aG O)(g:BS):BO:=match bd[g.pc]? with
 | none=>.mM
 | some i=>lV en el {g with pc:=g.pc+1} g.pc i
def AT(n:O)(fr:Y BF)(d:O):Prop:=d<=fr.length/\(d=fr.length->2<=n)/\∀f,d<fr.length->fr[fr.length-1-d]?=Z f->f.iH+(if f.code=3 then f.params else f.gS)<=n
def AS(n pn:O)(fr:Y BF):aI->Prop
 | .const _ | .pA | .qS=>True
 | .get i=>0<=i/\i<(pn:J)
 | .set i | .mF i=>1<=n/\0<=i/\i<(pn:J)
 | .drop | .jQ=>1<=n
 | .kI=>3<=n
 | .dX op=>2<=n/\op∈jL
 | .call | .ret=>2<=n
 | .br d=>AT n fr d
 | .gZ d=>1<=n/\AT (n-1) fr d
 | .hO ds=>1<=n/\1<=ds.length/\∀d∈ds,AT (n-1) fr d
 | .block m | .loop m=>(hZ m).isSome=u/\(X.io m).1<=n
 | .iff m=>1<=n/\(hZ m).isSome=u/\(X.io m).1<=n-1
 | .dG=>fr≠[]
 | .aS=>fr=[]->2<=n
def FT(bd:Y aI)(g:BS):Prop:=∀i,bd[g.pc]?=Z i->AS g.st.length g.pl.length g.fr i
theorem FT.of{g:BS}{i:aI}(h:bd[g.pc]?=Z i)(f:AS g.st.length g.pl.length g.fr i):FT bd g:=λj hj=>aT (h.symm.trans hj)▸f
class inductive yW (bd:Y aI) (en el:O->aG O) (g0:BS):O->O->BS->Prop
 | start:yW bd en el g0 0 0 g0
 | uN{n k g g':_}: yW bd en el g0 n k g->FT bd g->AZ bd en el g= .to g'->g.pc<g'.pc->yW bd en el g0 (n+1) k g'
 | tI{n k g g':_}: yW bd en el g0 n k g->FT bd g->AZ bd en el g= .to g'->yW bd en el g0 (n+1) (k+1) g'
section
variable{st:Y J}
variable{el:O->aG O}{g0 g g':BS}
theorem QL(h:AZ bd en el g ≠ .mM):g.pc<bd.length:=by
 by_cases e:g.pc<bd.length;exact e
 ·unfold AZ at h
  rw[lF (kU.mp e)]at h;exact absurd rfl h
theorem yW.le(h:yW bd en el g0 n k g):n<=k*bd.length+g.pc:=by
 induction h with
 | start=>exact nD _
 | uN _ _ _ hp ih=>exact aL (gP ih) (eR hp _)
 | tI _ _ hs ih=>
  have:=QL (λe=>nomatch hs.symm.trans e);rw[Nat.add_mul,Nat.one_mul];exact aL (gP ih) (aL (eR this _) (bU _ _))
theorem HP{i:aI}(h:bd[g.pc]?=Z i):AZ bd en el g=lV en el {g with pc:=g.pc+1} g.pc i:=by unfold AZ;rw[h]
theorem rQ: cR (st++[v])=v:=by unfold cR;rw[Ds];rfl
theorem tQ: (st++[v]).dropLast=st:=CT
end
def gM(bd:Y aI)(en el:O->aG O)(g0:BS)(r:tG)(t:Tl):Prop:=∃n k g,yW bd en el g0 n k g/\k<=2/\FT bd g/\AZ bd en el g= .lB r t
def Rs(bd:Y aI)(en el:O->aG O)(g0:BS)(m p:O)(F:Y BF):BC:=λvs pl t k=>Wj (λn:O=>yW bd en el g0 n k ⟨p,vs,pl,F,t⟩) (λ_=>vs.length=m/\pl.length=4) (λ_=>k<=2) (λ_=>(2:J)^k*E6 pl 3 0<=7) (λ_=>0<=E6 pl 3 0)
section
variable{el:O->aG O}{g0:BS}{m m' p p':O}{F F':Y BF}{qU pl':Y J}{i:aI}
theorem Rs.next(z:Rs bd en el g0 m p F vs pl t k)(hi:bd[p]?=Z i)(hf:AS m 4 F i)(hs:lV en el ⟨p+1,vs,pl,F,t⟩ p i= .to ⟨p',qU,pl',F',t'⟩)(hp:p<p')(hm:qU.length=m')(h3:E6 pl' 3 0=E6 pl 3 0/\pl'.length=pl.length):Rs bd en el g0 m' p' F' qU pl' t' k:=by obtain⟨n,r,h1,h2,h4,h5⟩:=z;exact⟨n+1,.uN r (.of (g:=⟨p,vs,pl,F,t⟩) hi (h1.1.symm▸h1.2.symm▸hf)) ((HP (g:=⟨p,vs,pl,F,t⟩) hi).trans hs) hp,⟨hm,h3.2.trans h1.2⟩,h2,h3.1▸h4,h3.1▸h5⟩
theorem Rs.gK(z:Rs bd en el g0 m p F vs pl t k)(hi:bd[p]?=Z i)(hf:AS m 4 F i)(hs:lV en el ⟨p+1,vs,pl,F,t⟩ p i= .to ⟨p',qU,pl',F',t'⟩)(hm:qU.length=m')(hq:pl'.length=4)(h3:(2:J)^(k+1)*E6 pl' 3 0<=7)(h4:1<=E6 pl' 3 0):kk (Rs bd en el g0 m' p' F') qU pl' t' (k+1):=by
 obtain⟨n,r,h1,h2,_⟩:=z;have hf:AS vs.length pl.length F i:=h1.1.symm▸h1.2.symm▸hf;have hk:k+1<=2:=by
  by_cases e:k+1<=2;exact e
  ·have ek:k=2:=BM h2 (BN (JC.mp e))
   rw[ek]at h3;have:(2:J)^(2+1)=8:=rfl;rw[this]at h3;exact absurd (gB (xh h4 (by decide:(0:J)<=8)) h3) (by decide)
 exact⟨⟨n+1,.tI r (.of (g:=⟨p,vs,pl,F,t⟩) hi hf) ((HP (g:=⟨p,vs,pl,F,t⟩) hi).trans hs),⟨hm,hq⟩,hk,h3,gB (by decide) h4⟩,hk⟩
theorem Rs.lB{r:tG}(z:Rs bd en el g0 m p F vs pl t k)(hi:bd[p]?=Z i)(hf:AS m 4 F i)(hs:lV en el ⟨p+1,vs,pl,F,t⟩ p i= .lB r t'):gM bd en el g0 r t':=by obtain⟨n,q,h1,h2,_⟩:=z;exact⟨n,k,_,q,h2,.of (g:=⟨p,vs,pl,F,t⟩) hi (h1.1.symm▸h1.2.symm▸hf),(HP (g:=⟨p,vs,pl,F,t⟩) hi).trans hs⟩
end
section
variable(bd:Y aI)(en el:O->aG O)(g0:BS)
structure HD(F:Y BF)(b e i aD:O)(lp:aC)(g:Gf)(f:BF):Prop where
 iH:f.iH=g.hb
 low:g.hb<=b
 aS:e<=f.aS
 uH:lp=aE->A3 (f.code≠3) (f.gS=aD) (g.be=Rs bd en el g0 (g.hb+aD) (f.aS+1) (F.take i))
 loop:lp=u->A3 (f.code=3) (f.params=aD) (g.bb=Rs bd en el g0 (g.hb+aD) (f.fC+1) (F.take i++[f]))
structure Ctx(L:Y (O×aC))(G:Y Gf)(b e:O)(F:Y BF):Prop where
 gl:G.length=L.length
 fl:F.length+1=L.length
 zero:∀g,G[0]?=Z g->A3 (L[0]?=Z (2,aE)) (g.hb=0) (g.be=λvs pl t k=>gM bd en el g0 (Z (vs.getD 0 0,vs.getD 1 0)) t)
 ok:∀(i aD:O) lp g f,L[i+1]?=Z (aD,lp)->G[i+1]?=Z g->F[i]?=Z f->HD bd en el g0 F b e i aD lp g f
end
section
variable{el:O->aG O}{g0:BS}{G:Y Gf}{b e:O}{F:Y BF}
theorem QS(h1:hb<=vs.length)(h2:aD<=vs.length):(jF hb aD vs).length=hb+aD:=by unfold jF;rw[bA,Dt,LX,FC h1,zw h2]
theorem Nz(c:Ctx bd en el g0 L G b e F){d h aD:O}(hd:d<L.length)(hL:L[L.length-1-d]?=Z (aD,aE))(hm:aD<=h):AT (b+h) F d:=by
 have fl:=c.fl;refine⟨fq fl hd,λe1=>?_,λf cQ hf=>?_⟩
 ·rw[fj fl e1]at hL
  obtain⟨z1,_⟩:=c.zero _ (cS (l:=G) (i:=0) (by rw[c.gl,<-fl];exact BP _));have e3:aD=2:=by rw[z1]at hL;exact (aW PT (aT hL)).symm
  rw[<-e3];exact aL hm (dL _ _)
 ·rw[fm fl cQ]at hL
  obtain⟨o1,o2,o3,o4,_⟩:=c.ok _ _ _ _ _ hL (cS (l:=G) (i:=F.length-1-d+1) (by rw[c.gl,<-fl];exact tZ (n1 cQ))) hf;obtain⟨q1,q2,q3⟩:=o4 rfl;rw[aR q1,q2,o1];exact eN o2 hm
theorem Ts(c:Ctx bd en el g0 L G b e F){m p d h aD k:O}{ux vs pl:Y J}{t:Tl}{i:aI}{g:Gf}(z:Rs bd en el g0 m p F ux pl t k)(hi:bd[p]?=Z i)(hs:lV en el ⟨p+1,ux,pl,F,t⟩ p i=BS.jA ⟨p+1,vs,pl,F,t⟩ d)(hd:d<L.length)(hL:L[L.length-1-d]?=Z (aD,aE))(hG:G[L.length-1-d]?=Z g)(hm:aD<=h)(hv:vs.length=b+h)(hp:p<e)(hf:AS m 4 F i):g.be (jF g.hb aD vs) pl t k:=by
 have fl:=c.fl;by_cases e1:d=F.length
 ·rw[fj fl e1]at hL hG
  obtain⟨z1,z2,z3⟩:=c.zero g hG;have e3:aD=2:=by rw[z1]at hL;exact (aW PT (aT hL)).symm
  rw[z3,z2,e3];refine z.lB hi hf (hs.trans ?_);unfold BS.jA;rw[aZ e1];rfl
 ·have hd:=La (fq fl hd) e1
  rw[fm fl hd]at hL hG;have cQ:=n1 (b:=d) hd;obtain⟨o1,o2,o3,o4,_⟩:=c.ok _ _ _ _ _ hL hG (cS cQ);obtain⟨q1,q2,q3⟩:=o4 rfl;rw[q3];refine z.next hi hf (hs.trans ?_) (zj (lO (eP hp o3))) (QS (by rw[hv];exact aL o2 (bU _ _)) (by rw[hv];exact aL hm (dL _ _))) ⟨rfl,rfl⟩;unfold BS.jA;rw[aR e1];show (match F[F.length-1-d]? with|none=>BO.mM|some f=>_)=_;rw[cS cQ];dsimp only;rw[aR q1,o1,q2]
end
def Cm(bd:Y aI)(en el:O->aG O)(g0:BS)(b:O)(o:aG O)(p:O)(F:Y BF):BC:=match o with
 | some h=>Rs bd en el g0 (b+h) p F
 | none=>λ_ _ _ _=>False
section
variable{m:O}
variable{el:O->aG O}{g0:BS}{bK:As}{G:Y Gf}{b e p h:O}{F:Y BF}
theorem Rs.len(z:Rs bd en el g0 m p F vs pl t k):vs.length=m:=by obtain⟨_,_,q,_⟩:=z;exact q.1
theorem Na(h:vs.length=m):(vs++[v]).length=m+1:=by rw[bA,h];rfl
theorem ox(h0:0<=i)(h3:i<3):E6 (pl.set i.toNat v) 3 0=E6 pl 3 0/\(pl.set i.toNat v).length=pl.length:=by refine⟨?_,mI⟩;rw[sW,sW,kL (mK ((xq (by decide)).mpr h3))]
theorem cS'(hi:bd[p]?=Z (.const v)):eO ⟨gM bd en el g0,bK⟩ L G b (Z h) [.const v] (Z (h+1)) (Rs bd en el g0 (b+h) p F) (Rs bd en el g0 (b+(h+1)) (p+1) F):=
 .eY (.plain (bM rfl) (bM rfl) (bM rfl) (bM rfl) (bM rfl)) λx n a hl hn _=>UW a hl hn λvs pl t k z=>z.next hi trivial rfl (iB _) (Na z.len) ⟨rfl,rfl⟩
theorem cW'(h0:0<=i)(h4:i<4)(hi:bd[p]?=Z (.get i)):eO ⟨gM bd en el g0,bK⟩ L G b (Z h) [.get i] (Z (h+1)) (Rs bd en el g0 (b+h) p F) (Rs bd en el g0 (b+(h+1)) (p+1) F):=
 .eY (.plain (bM rfl) (bM rfl) (bM rfl) (bM rfl) (bM rfl)) λx n a hl hn _=>qp a hl hn ⟨h0,h4⟩ λvs pl t k z=>z.next hi ⟨h0,h4⟩ (by rw[sW];rfl) (iB _) (Na z.len) ⟨rfl,rfl⟩
theorem cY'(hi:bd[p]?=Z .pA):eO ⟨gM bd en el g0,bK⟩ L G b (Z h) [.pA] (Z h) (Rs bd en el g0 (b+h) p F) (Rs bd en el g0 (b+h) (p+1) F):=
 .eY (.plain (bM rfl) (bM rfl) (bM rfl) (bM rfl) (bM rfl)) λx n a hl hn _=>oA' a hl hn λvs pl t k z=>z.next hi trivial rfl (iB _) z.len ⟨rfl,rfl⟩
theorem Ay(h:(vs++[v]).length=m+1):vs.length=m:=by rw[bA]at h;exact G1 h
theorem db'(hp:1<=L.length)(h0:0<=i)(h3:i<3)(hi:bd[p]?=Z (.set i)):eO ⟨gM bd en el g0,bK⟩ L G b (Z (h+1)) [.set i] (Z h) (Rs bd en el g0 (b+(h+1)) p F) (Rs bd en el g0 (b+h) (p+1) F):=
 .eY (.plain (bM rfl) (bM rfl) (bM rfl) (bM rfl) (bM rfl)) λx n a hl hn _=>qr a hl hn hp ⟨h0,yI h3 (by decide)⟩ λvs v pl t k z=>z.next hi ⟨dL 1 (b+h),h0,yI h3 (by decide)⟩ (by
  show BO.to (BS.mk _ _ _ _ _)=_;rw[rQ];show BO.to ⟨p+1,(vs++[v]).dropLast,_,F,t⟩=_;rw[tQ]) (iB _) (Ay z.len) (ox h0 h3)
theorem de'(hp:1<=L.length)(h0:0<=i)(h3:i<3)(hi:bd[p]?=Z (.mF i)):eO ⟨gM bd en el g0,bK⟩ L G b (Z (h+1)) [.mF i] (Z (h+1)) (Rs bd en el g0 (b+(h+1)) p F) (Rs bd en el g0 (b+(h+1)) (p+1) F):=
 .eY (.plain (bM rfl) (bM rfl) (bM rfl) (bM rfl) (bM rfl)) λx n a hl hn _=>qs a hl hn hp ⟨h0,yI h3 (by decide)⟩ λvs v pl t k z=>z.next hi ⟨dL 1 (b+h),h0,yI h3 (by decide)⟩ (by
  show BO.to (BS.mk _ _ _ _ _)=_;rw[rQ]) (iB _) z.len (ox h0 h3)
theorem cT'(hp:1<=L.length)(hi:bd[p]?=Z .drop):eO ⟨gM bd en el g0,bK⟩ L G b (Z (h+1)) [.drop] (Z h) (Rs bd en el g0 (b+(h+1)) p F) (Rs bd en el g0 (b+h) (p+1) F):=
 .eY (.plain (bM rfl) (bM rfl) (bM rfl) (bM rfl) (bM rfl)) λx n a hl hn _=>ov' a hl hn hp λvs v pl t k z=>z.next hi (dL 1 (b+h)) (by
  show BO.to ⟨p+1,(vs++[v]).dropLast,_,F,t⟩=_;rw[tQ]) (iB _) (Ay z.len) ⟨rfl,rfl⟩
theorem dg'(hi:bd[p]?=Z .qS){h':aG O}{C':BC}: eO ⟨gM bd en el g0,bK⟩ L G b (Z h) [.qS] aB (Rs bd en el g0 (b+h) p F) C':=
 .eY (.plain (bM rfl) (bM rfl) (bM rfl) (bM rfl) (bM rfl)) λx n a hl hn _=>oF' a hl hn λvs pl t k z=>z.lB hi trivial rfl
theorem cZ'(hp:1<=L.length)(h2:2<=h)(hi:bd[p]?=Z .ret){C':BC}: eO ⟨gM bd en el g0,bK⟩ L G b (Z h) [.ret] aB (Rs bd en el g0 (b+h) p F) C':=
 .eY (.plain (bM rfl) (bM rfl) (bM rfl) (bM rfl) (bM rfl)) λx n a hl hn _=>oB' a hl hn hp h2 λvs pl t k z=>z.lB hi (aL h2 (dL _ _)) rfl
end
section
variable{aN:J}
variable{el:O->aG O}{g0:BS}{bK:As}{G:Y Gf}{b e p h:O}{F:Y BF}
theorem Ja: vs++[aN,v]=vs++[aN]++[v]:=(fB vs [aN] [v]).symm
theorem z8{w:J}: vs++[aN,v,w]=vs++[aN]++[v]++[w]:=by rw[fB,fB];rfl
theorem KR{a c:Y J}{m i:O}(h:(vs++a).length=m+i)(ha:a.length=i)(hc:c.length=j):(vs++c).length=m+j:=by rw[bA,ha]at h;rw[bA,hc,G1 h]
theorem df'(hb:iS [.dX op])(hp:1<=L.length)(gX:op∈jL)(hi:bd[p]?=Z (.dX op)):eO ⟨gM bd en el g0,bK⟩ L G b (Z (h+2)) [.dX op] (Z (h+1)) (Rs bd en el g0 (b+(h+2)) p F) (Rs bd en el g0 (b+(h+1)) (p+1) F):=
 .eY hb λx n a hl hn _=>qt a hl hn hp gX λvs aN v pl t k z=>z.next hi ⟨dL 2 (b+h),gX⟩ (by
  show BO.to ⟨p+1,(vs++[aN,v]).dropLast.dropLast++[kS op (cR (vs++[aN,v]).dropLast) (cR (vs++[aN,v]))],pl,F,t⟩=_;rw[Ja,tQ,rQ,tQ,rQ]) (iB _) (KR (m:=b+h) (i:=2) (j:=1) z.len rfl rfl) ⟨rfl,rfl⟩
theorem cV'(hp:1<=L.length)(hi:bd[p]?=Z .jQ):eO ⟨gM bd en el g0,bK⟩ L G b (Z (h+1)) [.jQ] (Z (h+1)) (Rs bd en el g0 (b+(h+1)) p F) (Rs bd en el g0 (b+(h+1)) (p+1) F):=
 .eY (.plain (bM rfl) (bM rfl) (bM rfl) (bM rfl) (bM rfl)) λx n a hl hn _=>ox' a hl hn hp λvs v pl t k z=>z.next hi (dL 1 (b+h)) (by
  show BO.to ⟨p+1,(vs++[v]).dropLast++[uL (cR (vs++[v]))],pl,F,t⟩=_;rw[tQ,rQ]) (iB _) (KR (m:=b+h) (i:=1) (j:=1) z.len rfl rfl) ⟨rfl,rfl⟩
theorem cR'(hp:1<=L.length)(hi:bd[p]?=Z .call):eO ⟨gM bd en el g0,bK⟩ L G b (Z (h+2)) [.call] (Z (h+2)) (Rs bd en el g0 (b+(h+2)) p F) (Rs bd en el g0 (b+(h+2)) (p+1) F):=
 .eY (.plain (bM rfl) (bM rfl) (bM rfl) (bM rfl) (bM rfl)) λx n a hl hn _=>ou' a hl hn hp λvs aN v pl t k z=>z.next hi (dL 2 (b+h)) (by
  show BO.to ⟨p+1,(vs++[aN,v]).dropLast.dropLast++[cR (vs++[aN,v])]++[(cR (vs++[aN,v]).dropLast+1).fmod dQ],pl,F,t++[(cR (vs++[aN,v]).dropLast,cR (vs++[aN,v]))]⟩=_;rw[Ja,tQ,rQ,tQ,rQ,Ja]) (iB _) (KR (m:=b+h) (i:=2) (j:=2) z.len rfl rfl) ⟨rfl,rfl⟩
theorem da'(hp:1<=L.length)(hi:bd[p]?=Z .kI):eO ⟨gM bd en el g0,bK⟩ L G b (Z (h+3)) [.kI] (Z (h+1)) (Rs bd en el g0 (b+(h+3)) p F) (Rs bd en el g0 (b+(h+1)) (p+1) F):=
 .eY (.plain (bM rfl) (bM rfl) (bM rfl) (bM rfl) (bM rfl)) λx n a hl hn _=>oC' a hl hn hp λvs aN v q pl t k z=>z.next hi (dL 3 (b+h)) (by
  show BO.to ⟨p+1,(vs++[aN,v,q]).dropLast.dropLast.dropLast++[if cR (vs++[aN,v,q])≠0 then cR (vs++[aN,v,q]).dropLast.dropLast else cR (vs++[aN,v,q]).dropLast],pl,F,t⟩=_;rw[z8,tQ,rQ,tQ,rQ,tQ,rQ]) (iB _) (KR (m:=b+h) (i:=3) (j:=1) z.len rfl rfl) ⟨rfl,rfl⟩
theorem cP'(c:Ctx bd en el g0 L G b e F)(lI:p<e){d aD:O}(hd:d<L.length)(hL:L[L.length-1-d]?=Z (aD,aE))(hm:aD<=h)(h2:aD<=2)(hi:bd[p]?=Z (.br d)){C':BC}: eO ⟨gM bd en el g0,bK⟩ L G b (Z h) [.br d] aB (Rs bd en el g0 (b+h) p F) C':=by have hG:=cS (l:=G) (i:=L.length-1-d) (by rw[c.gl];exact n1 hd);exact .eY (.plain (bM rfl) (bM rfl) (bM rfl) (bM rfl) (bM rfl)) λx n a hl hn _=>ot' a hl hn hd hL hG hm h2 λvs pl t k z=>Ts c z hi rfl hd hL hG hm z.len lI (Nz c hd hL hm)
theorem cQ'(c:Ctx bd en el g0 L G b e F)(lI:p<e){d aD:O}(hd:d<L.length)(hL:L[L.length-1-d]?=Z (aD,aE))(hm:aD<=h)(h2:aD<=2)(hi:bd[p]?=Z (.gZ d)):eO ⟨gM bd en el g0,bK⟩ L G b (Z (h+1)) [.gZ d] (Z h) (Rs bd en el g0 (b+(h+1)) p F) (Rs bd en el g0 (b+h) (p+1) F):=by
 have hG:=cS (l:=G) (i:=L.length-1-d) (by rw[c.gl];exact n1 hd);have e0:∀{vs pl:Y J} {v:J} {t:Tl},lV en el ⟨p+1,vs++[v],pl,F,t⟩ p (.gZ d)=if v=0 then .to ⟨p+1,vs,pl,F,t⟩ else BS.jA ⟨p+1,vs,pl,F,t⟩ d:=λ{vs pl v t}=>by
  show (if cR (vs++[v])=0 then BO.to ⟨p+1,(vs++[v]).dropLast,pl,F,t⟩ else BS.jA ⟨p+1,(vs++[v]).dropLast,pl,F,t⟩ d)=_;rw[tQ,rQ]
 exact .eY (.plain (bM rfl) (bM rfl) (bM rfl) (bM rfl) (bM rfl)) λx n a hl hn _=>qo a hl hn hd hL hG hm h2 (λvs v pl t k z hv=>Ts c z hi (e0.trans (aR hv)) hd hL hG hm (Ay z.len) lI ⟨dL 1 (b+h),Nz c hd hL hm⟩) λvs v pl t k z hv=>z.next hi ⟨dL 1 (b+h),Nz c hd hL hm⟩ (e0.trans (aZ hv)) (iB _) (Ay z.len) ⟨rfl,rfl⟩
theorem dc'(c:Ctx bd en el g0 L G b e F)(lI:p<e){ds:Y O}(h3:ds.length<=3)(h1:1<=ds.length)(ER:∀q∈L,q.1<=2)(qJ:∀d∈ds,d<L.length/\∃aD,L[L.length-1-d]?=Z (aD,aE)/\aD<=h)(hi:bd[p]?=Z (.hO ds)){C':BC}: eO ⟨gM bd en el g0,bK⟩ L G b (Z (h+1)) [.hO ds] aB (Rs bd en el g0 (b+(h+1)) p F) C':=by
 have hg:∀d,d<L.length->∃g,G[L.length-1-d]?=Z g:=λd hd=>⟨_,cS (l:=G) (i:=L.length-1-d) (by rw[c.gl];exact n1 hd)⟩;have mQ:1<=L.length:=c.fl▸dL _ _;refine .eY (.plain (bM rfl) (bM rfl) (bM rfl) (bM rfl) (bM rfl)) λx n a hl hn _=>oE' a hl hn mQ h3 h1 (λd hd=>?_) ER λvs v pl t k z=>?_
 ·obtain⟨q1,aD,q2,q3⟩:=qJ d hd
  obtain⟨g,hg⟩:=hg d q1;exact⟨q1,aD,g,q2,hg,q3⟩
 ·have cQ:=Ui (v:=v) h1
  have Bv:ds.getD (Dg v ds.length) 0∈ds:=by
   rw[sW,cS cQ];exact AO cQ
  generalize J3:ds.getD (Dg v ds.length) 0=d at *;obtain⟨q1,aD,q2,q3⟩:=qJ d Bv;obtain⟨g,hg⟩:=hg d q1;unfold Aw;rw[hg,q2];exact Ts c z hi (by
   show BS.jA ⟨p+1,(vs++[v]).dropLast,pl,F,t⟩ (ds.getD (if cR (vs++[v])<(ds.length:J)-1 then (cR (vs++[v])).toNat else ds.length-1) 0)=_;rw[tQ,rQ];show BS.jA _ (ds.getD (Dg v ds.length) 0)=_;rw[J3]) q1 q2 hg q3 (Ay z.len) lI ⟨dL 1 (b+h),h1,λd hd=>by
   obtain⟨q1,aD,q2,q3⟩:=qJ d hd;exact Nz c q1 q2 q3⟩
end
section
variable{q x:O}
variable{el:O->aG O}{g0:BS}{bK:As}{G:Y Gf}{b b' e e' p h:O}{g:Gf}{f:BF}{F:Y BF}
theorem Ctx.push(c:Ctx bd en el g0 L G b e F)(hb:b<=b')(he:e'<=e)(o:HD bd en el g0 (F++[f]) b' e' F.length aD lp g f):Ctx bd en el g0 (L++[(aD,lp)]) (G++[g]) b' e' (F++[f]):=by
 have fl:=c.fl;have gl:=c.gl;have hL:0<L.length:=fl▸BP _;refine⟨by rw[bA,bA,gl];rfl,by rw[bA,bA,<-fl];rfl,λg' h'=>?_,λi m' da g' f' h1 h2 h3=>?_⟩
 ·rw[gO (gl.symm▸hL)]at h'
  obtain⟨z1,z2,z3⟩:=c.zero g' h';exact⟨rZ z1,z2,z3⟩
 ·rcases Cq h3 with a|⟨a,a2⟩
  ·have hi:=kF a
   have hn:i+1<L.length:=fl▸tZ hi;rw[gO (by first|exact hn|exact gl▸hn)]at h1 h2;obtain⟨o1,o2,o3,o4,o5⟩:=c.ok i m' da g' f' h1 h2 a;have ht:(F++[f]).take i=F.take i:=yx (lO hi);exact⟨o1,aL o2 hb,aL he o3,λq=>ht▸o4 q,λq=>ht▸o5 q⟩
  ·rw[a,fl,kZ]at h1
   rw[a,fl,<-gl,kZ]at h2;have q1:=aT h1;have q2:aD=m':=aW PT q1;have q3:lp=da:=aW d7 q1;rw[a,a2,<-q2,<-q3,<-aT h2];exact o
theorem Ctx.cV(c:Ctx bd en el g0 L G b e F)(he:e'<=e):Ctx bd en el g0 L G b e' F:=
 ⟨c.gl,c.fl,c.zero,λi m lp g f h1 h2 h3=>by
  obtain⟨o1,o2,o3,o4,o5⟩:=c.ok i m lp g f h1 h2 h3;exact⟨o1,o2,aL he o3,o4,o5⟩⟩
theorem Il: (F++[f]).take F.length=F:=by rw[yx (cE _),CV]
theorem Qc{m:O}(z:Rs bd en el g0 m p (F++[f]) vs pl t k)(hi:bd[p]?=Z .aS):Rs bd en el g0 m (p+1) F vs pl t k:=
 z.next hi (λq=>absurd q (VQ _ (VR _ _))) (by
  show (if F++[f]=[] then BO.lB (B8 vs) t else .to ⟨p+1,vs,pl,(F++[f]).dropLast,t⟩)=_;rw[aR (VQ _ (VR _ _)),CT]) (iB _) z.len ⟨rfl,rfl⟩
theorem B4{q:O×O}(h:hZ m=Z q):X.io m=q:=by unfold X.io;rw[h];rfl
theorem cB'(hm:hZ m=Z (q,r))(he:en p=Z x)(hn:n=b+h+q)(z:Rs bd en el g0 n p F vs pl t k)(hi:bd[p]?=Z (.block m)):Rs bd en el g0 n (p+1) (F++[⟨2,q,r,b+h,p,x⟩]) vs pl t k:=
 z.next hi ⟨PQ (PR.mpr hm),by rw[B4 hm,hn];exact dL _ _⟩ (by
  show (match en p with|none=>BO.mM|some (e:O)=>BO.to (BS.mk (p+1) vs pl (F++[BF.mk 2 (X.io m).1 (X.io m).2 (vs.length-(X.io m).1) p e]) t))=_;rw[he,B4 hm,z.len,hn];dsimp only;rw[PG]) (iB _) z.len ⟨rfl,rfl⟩
theorem ia'(hm:hZ m=Z (q,q))(he:en p=Z x)(hn:n=b+h+q)(z:Rs bd en el g0 n p F vs pl t k)(hi:bd[p]?=Z (.loop m)):Rs bd en el g0 n (p+1) (F++[⟨3,q,q,b+h,p,x⟩]) vs pl t k:=
 z.next hi ⟨PQ (PR.mpr hm),by rw[B4 hm,hn];exact dL _ _⟩ (by
  show (match en p with|none=>BO.mM|some (e:O)=>BO.to (BS.mk (p+1) vs pl (F++[BF.mk 3 (X.io m).1 (X.io m).2 (vs.length-(X.io m).1) p e]) t))=_;rw[he,B4 hm,z.len,hn];dsimp only;rw[PG]) (iB _) z.len ⟨rfl,rfl⟩
end
section
variable{q x:O}
variable{el:O->aG O}{g0:BS}{b p h:O}{f:BF}{F:Y BF}
theorem aj{q r n x:O}(hm:hZ m=Z (q,r))(he:en p=Z x)(hn:vs.length=b+h+q):lV en el ⟨p+1,vs++[v],pl,F,t⟩ p (.iff m)=if v=0 then BO.to (BS.mk ((el p).elim x (· + 1)) vs pl (F++[BF.mk 4 q r (b+h) p x]) t) else BO.to (BS.mk (p+1) vs pl (F++[BF.mk 4 q r (b+h) p x]) t):=by show (match en p with|none=>BO.mM|some (e:O)=>if cR (vs++[v])=0 then BO.to (BS.mk ((el p).elim e (· + 1)) (vs++[v]).dropLast pl (F++[BF.mk 4 (X.io m).1 (X.io m).2 ((vs++[v]).dropLast.length-(X.io m).1) p e]) t) else BO.to (BS.mk (p+1) (vs++[v]).dropLast pl (F++[BF.mk 4 (X.io m).1 (X.io m).2 ((vs++[v]).dropLast.length-(X.io m).1) p e]) t))=_;rw[he,B4 hm,tQ,rQ,hn];dsimp only;rw[PG]
theorem aq(hm:hZ m=Z (q,r))(he:en p=Z x)(hn:n=b+h+q)(z:Rs bd en el g0 (n+1) p F (vs++[v]) pl t k)(hi:bd[p]?=Z (.iff m))(hv:v≠0):Rs bd en el g0 n (p+1) (F++[⟨4,q,r,b+h,p,x⟩]) vs pl t k:=
 z.next hi ⟨dL _ _,PQ (PR.mpr hm),by rw[B4 hm,hn];exact dL _ _⟩ ((aj (n:=n) hm he ((Ay z.len).trans hn)).trans (aR hv)) (iB _) (Ay z.len) ⟨rfl,rfl⟩
theorem ak{y:O}(hm:hZ m=Z (q,r))(he:en p=Z x)(hn:n=b+h+q)(z:Rs bd en el g0 (n+1) p F (vs++[v]) pl t k)(hi:bd[p]?=Z (.iff m))(hv:v=0)(hy:(el p).elim x (· + 1)=y)(hp:p<y):Rs bd en el g0 n y (F++[⟨4,q,r,b+h,p,x⟩]) vs pl t k:=
 z.next hi ⟨dL _ _,PQ (PR.mpr hm),by rw[B4 hm,hn];exact dL _ _⟩ ((aj (n:=n) hm he ((Ay z.len).trans hn)).trans ((aZ hv).trans (by rw[hy]))) hp (Ay z.len) ⟨rfl,rfl⟩
theorem dS'{m:O}(z:Rs bd en el g0 m p (F++[f]) vs pl t k)(hi:bd[p]?=Z .dG)(hp:p<f.aS):Rs bd en el g0 m f.aS (F++[f]) vs pl t k:=
 z.next hi (VQ _ (VR _ _)) (by
  show (match (F++[f]).getLast? with|none=>BO.mM|some (f':BF)=>BO.to (BS.mk f'.aS vs pl (F++[f]) t))=_;rw[Ds]) hp z.len ⟨rfl,rfl⟩
end
section
variable{el:O->aG O}{g0:BS}{bK:As}{G:Y Gf}{b e p h q:O}{f:BF}{F:Y BF}{h1:aG O}{ca:Y aI}
theorem MS{x:O}(he:uE h1 r)(hf:bd[x]?=Z .aS):∀vs pl t k,Cm bd en el g0 b h1 x (F++[f]) vs pl t k->Rs bd en el g0 (b+r) (x+1) F vs pl t k:=λvs pl t k z=>by
 rcases he with e|e
 rw[e]at z;exact Iz z;rw[e]at z;exact Qc z hf
theorem cO'(c:Ctx bd en el g0 L G b e F)(hm:hZ m=Z (q,r))(hx:en p=Z (p+1+ca.length))(hi:bd[p]?=Z (.block m))(hf:bd[p+1+ca.length]?=Z .aS)(lI:p+1+ca.length<=e)(he:uE h1 r)(ih:∀G' f,Ctx bd en el g0 (L++[(r,aE)]) G' (b+h) (p+1+ca.length) (F++[f])->eO ⟨gM bd en el g0,bK⟩ (L++[(r,aE)]) G' (b+h) (Z q) ca h1 (Rs bd en el g0 (b+h+q) (p+1) (F++[f])) (Cm bd en el g0 (b+h) h1 (p+1+ca.length) (F++[f]))):eO ⟨gM bd en el g0,bK⟩ L G b (Z (h+q)) (.block m::(ca++[.aS])) (Z (h+r)) (Rs bd en el g0 (b+h+q) p F) (Rs bd en el g0 (b+h+r) (p+1+ca.length+1) F):=by
 have o:HD bd en el g0 (F++[⟨2,q,r,b+h,p,p+1+ca.length⟩]) (b+h) (p+1+ca.length) F.length r aE ⟨Rs bd en el g0 (b+h+r) (p+1+ca.length+1) F,λ_ _ _ _=>False,λ_ _ _ _=>False,b+h,q,r⟩ ⟨2,q,r,b+h,p,p+1+ca.length⟩:=
  ⟨rfl,cE _,cE _,λ_=>⟨bM rfl,rfl,by rw[Il]⟩,λq=>nomatch q⟩
 exact .lN (λvs pl t k z=>cB' hm hx rfl z hi) (.block _ _ _ hm (ih _ _ (c.push (bU _ _) lI o)) he (MS he hf))
theorem cX'(c:Ctx bd en el g0 L G b e F)(hm:hZ m=Z (q,q))(hx:en p=Z (p+1+ca.length))(hy:el p=aB)(hi:bd[p]?=Z (.iff m))(hf:bd[p+1+ca.length]?=Z .aS)(lI:p+1+ca.length<=e)(he:uE h1 q)(ih:∀G' f,Ctx bd en el g0 (L++[(q,aE)]) G' (b+h) (p+1+ca.length) (F++[f])->eO ⟨gM bd en el g0,bK⟩ (L++[(q,aE)]) G' (b+h) (Z q) ca h1 (Rs bd en el g0 (b+h+q) (p+1) (F++[f])) (Cm bd en el g0 (b+h) h1 (p+1+ca.length) (F++[f]))):eO ⟨gM bd en el g0,bK⟩ L G b (Z (h+q+1)) (.iff m::(ca++[.aS])) (Z (h+q)) (Rs bd en el g0 (b+h+q+1) p F) (Rs bd en el g0 (b+h+q) (p+1+ca.length+1) F):=by
 have o:HD bd en el g0 (F++[⟨4,q,q,b+h,p,p+1+ca.length⟩]) (b+h) (p+1+ca.length) F.length q aE ⟨Rs bd en el g0 (b+h+q) (p+1+ca.length+1) F,λ_ _ _ _=>False,Rs bd en el g0 (b+h+q) (p+1+ca.length) (F++[⟨4,q,q,b+h,p,p+1+ca.length⟩]),b+h,q,q⟩ ⟨4,q,q,b+h,p,p+1+ca.length⟩:=
  ⟨rfl,cE _,cE _,λ_=>⟨bM rfl,rfl,by rw[Il]⟩,λq=>nomatch q⟩
 exact .iff _ _ _ hm (λvs v pl t k z hv=>aq hm hx rfl z hi hv) (λvs v pl t k z hv=>ak hm hx rfl z hi hv (by rw[hy];rfl) (eP (iB p) (bU _ _))) (ih _ _ (c.push (bU _ _) lI o)) he (MS he hf) λvs pl t k z=>Qc z hf
end
section
variable{x:O}
variable{el:O->aG O}{g0:BS}{bK:As}{G:Y Gf}{b e p h q:O}{f:BF}{F:Y BF}{h1 h2:aG O}{ca cb:Y aI}
theorem dT'(he:uE h1 r)(hf:bd[x]?=Z .dG)(hx:x<f.aS)(hg:bd[f.aS]?=Z .aS):∀vs pl t k,Cm bd en el g0 b h1 x (F++[f]) vs pl t k->Rs bd en el g0 (b+r) (f.aS+1) F vs pl t k:=λvs pl t k z=>by
 rcases he with e|e
 rw[e]at z;exact Iz z;rw[e]at z;exact Qc (dS' z hf hx) hg
theorem cU'{y:O}(c:Ctx bd en el g0 L G b e F)(hm:hZ m=Z (q,r))(ey:y=p+1+ca.length)(ex:x=y+1+cb.length)(hx:en p=Z x)(hy:el p=Z y)(hi:bd[p]?=Z (.iff m))(hl:bd[y]?=Z .dG)(hf:bd[x]?=Z .aS)(lI:x<=e)(he:uE h1 r)(pN:uE h2 r)(ih:∀G' f,Ctx bd en el g0 (L++[(r,aE)]) G' (b+h) y (F++[f])->eO ⟨gM bd en el g0,bK⟩ (L++[(r,aE)]) G' (b+h) (Z q) ca h1 (Rs bd en el g0 (b+h+q) (p+1) (F++[f])) (Cm bd en el g0 (b+h) h1 y (F++[f])))(SP:∀G' f,Ctx bd en el g0 (L++[(r,aE)]) G' (b+h) x (F++[f])->eO ⟨gM bd en el g0,bK⟩ (L++[(r,aE)]) G' (b+h) (Z q) cb h2 (Rs bd en el g0 (b+h+q) (y+1) (F++[f])) (Cm bd en el g0 (b+h) h2 x (F++[f]))):eO ⟨gM bd en el g0,bK⟩ L G b (Z (h+q+1)) (.iff m::(ca ++ .dG::(cb++[.aS]))) (Z (h+r)) (Rs bd en el g0 (b+h+q+1) p F) (Rs bd en el g0 (b+h+r) (x+1) F):=by
 have aa:y<x:=ex▸eP (iB y) (bU _ _);have hpy:p<y+1:=ey▸yP KU;have o:HD bd en el g0 (F++[⟨4,q,r,b+h,p,x⟩]) (b+h) x F.length r aE ⟨Rs bd en el g0 (b+h+r) (x+1) F,λ_ _ _ _=>False,Rs bd en el g0 (b+h+q) (y+1) (F++[⟨4,q,r,b+h,p,x⟩]),b+h,q,r⟩ ⟨4,q,r,b+h,p,x⟩:=
  ⟨rfl,cE _,cE _,λ_=>⟨bM rfl,rfl,by rw[Il]⟩,λq=>nomatch q⟩
 have cx:=c.push (bU b h) lI o;exact .dG _ _ _ hm (λvs v pl t k z hv=>aq hm hx rfl z hi hv) (λvs v pl t k z hv=>ak hm hx rfl z hi hv (by rw[hy];rfl) hpy) (ih _ _ (cx.cV (lO aa))) he (dT' (f:=⟨4,q,r,b+h,p,x⟩) he hl aa hf) (SP _ _ cx) pN (MS pN hf)
theorem XE(c:Ctx bd en el g0 L G b e F)(hm:hZ m=Z (q,q))(hx:en p=Z (p+1+ca.length))(hi:bd[p]?=Z (.loop m))(hf:bd[p+1+ca.length]?=Z .aS)(lI:p+1+ca.length<=e)(he:uE h1 q)(ih:∀G' f,Ctx bd en el g0 (L++[(q,u)]) G' (b+h) (p+1+ca.length) (F++[f])->eO ⟨gM bd en el g0,bK⟩ (L++[(q,u)]) G' (b+h) (Z q) ca h1 (Rs bd en el g0 (b+h+q) (p+1) (F++[f])) (Cm bd en el g0 (b+h) h1 (p+1+ca.length) (F++[f]))):eO ⟨gM bd en el g0,bK⟩ L G b (Z (h+q)) (.loop m::(ca++[.aS])) (Z (h+q)) (Rs bd en el g0 (b+h+q) p F) (Rs bd en el g0 (b+h+q) (p+1+ca.length+1) F):=by
 have o:HD bd en el g0 (F++[⟨3,q,q,b+h,p,p+1+ca.length⟩]) (b+h) (p+1+ca.length) F.length q u ⟨Rs bd en el g0 (b+h+q) (p+1+ca.length+1) F,Rs bd en el g0 (b+h+q) (p+1) (F++[⟨3,q,q,b+h,p,p+1+ca.length⟩]),λ_ _ _ _=>False,b+h,q,q⟩ ⟨3,q,q,b+h,p,p+1+ca.length⟩:=
  ⟨rfl,cE _,cE _,λq=>(nomatch q),λ_=>⟨rfl,rfl,by rw[Il]⟩⟩
 have k2:∀{m p F vs pl t k},Rs bd en el g0 m p F vs pl t k->k<=2:=λ⟨_,_,_,q,_,_⟩=>q;exact .lN (λvs pl t k z=>⟨ia' hm hx rfl z hi,k2 z⟩) (.loop _ _ _ hm (λvs pl t k z=>z) (.lN (λvs pl t k z=>z.1) (ih _ _ (c.push (bU _ _) lI o))) he (MS he hf))
end
section
variable{m:O}
variable{el:O->aG O}{g0:BS}{bK:As}{G:Y Gf}{b e p h q:O}{f:BF}{F:Y BF}
def Rt(bd:Y aI)(en el:O->aG O)(g0:BS)(m p:O)(F:Y BF)(ok:Y J->Y J->O->Prop):BC:=λvs pl t k=>JX (λn:O=>yW bd en el g0 n k ⟨p,vs,pl,F,t⟩) (λ_=>vs.length=m) (λ_=>k<=2) (λ_=>ok vs pl k)
def FQ(k:O)(v:J):Prop:=(2:J)^k*v<=7/\0<=v
theorem Rt.next{m' p':O}{F':Y BF}{qU pl':Y J}{i:aI}{ok ij:Y J->Y J->O->Prop}(z:Rt bd en el g0 m p F ok vs pl t k)(hi:bd[p]?=Z i)(hf:AS m pl.length F i)(hs:lV en el ⟨p+1,vs,pl,F,t⟩ p i= .to ⟨p',qU,pl',F',t'⟩)(hp:p<p')(hm:qU.length=m')(h3:ok vs pl k->ij qU pl' k):Rt bd en el g0 m' p' F' ij qU pl' t' k:=by obtain⟨n,r,h1,h2,h4⟩:=z;exact⟨n+1,.uN r (.of (g:=⟨p,vs,pl,F,t⟩) hi (h1.symm▸hf)) ((HP (g:=⟨p,vs,pl,F,t⟩) hi).trans hs) hp,hm,h2,h3 h4⟩
theorem fg'(h:FQ k v):FQ (k+1) (v.fdiv (2^((1:J).fmod 32).toNat)):=by
 have e:v.fdiv (2^((1:J).fmod 32).toNat)=v / 2:=by
  show v.fdiv 2=v / 2;rw[xd _ (by decide)]
 rw[e];refine⟨?_,xc h.2 (by decide)⟩;have h1:v / 2*2<=v:=Int.ediv_mul_le v (by decide);rw[xl,VM,VN 2 (v / 2)];have hp:(0:J)<=2^k:=xk (by decide);exact gB (xh h1 hp) h.1
def O1(vs pl:Y J)(k:O):Prop:=∃us v,vs=us++[v]/\FQ k v/\pl.length=4
def O2(vs pl:Y J)(k:O):Prop:=∃us v,vs=us++[v]++[1]/\FQ k v/\pl.length=4
def O3(vs pl:Y J)(k:O):Prop:=∃us v,vs=us++[v]/\FQ (k+1) v/\pl.length=4
def O4(vs pl:Y J)(k:O):Prop:=∃us v,vs=us++[v]/\FQ (k+1) v/\pl.length=4/\pl.getD 3 0=v
theorem oR'(hi:bd[p]?=Z (.get 3)):eO ⟨gM bd en el g0,bK⟩ L G b (Z h) [.get 3] (Z (h+1)) (Rs bd en el g0 (b+h) p F) (Rt bd en el g0 (b+(h+1)) (p+1) F O1):=
 .eY (.plain (bM rfl) (bM rfl) (bM rfl) (bM rfl) (bM rfl)) λx n a hl hn _=>qp a hl hn ⟨by decide,by decide⟩ λvs pl t k z=>by
  have z1:Rt bd en el g0 (b+h) p F (λ_ pl k=>FQ k (pl.getD 3 0)/\pl.length=4) vs pl t k:=by
   obtain⟨n,r,h1,h2,h3,h4⟩:=z;exact⟨n,r,h1.1,h2,⟨h3,h4⟩,h1.2⟩
  have Bs:pl.length=4:=by
   obtain⟨_,_,_,_,_,q⟩:=z1;exact q
  exact z1.next hi ⟨by decide,by rw[Bs];decide⟩ (by rw[sW];rfl) (iB _) (Na z.len) λq=>⟨vs,_,rfl,q⟩
theorem oT'(hi:bd[p]?=Z (.const 1)):eO ⟨gM bd en el g0,bK⟩ L G b (Z h) [.const 1] (Z (h+1)) (Rt bd en el g0 (b+h) p F O1) (Rt bd en el g0 (b+(h+1)) (p+1) F O2):=
 .eY (.plain (bM rfl) (bM rfl) (bM rfl) (bM rfl) (bM rfl)) λx n a hl hn _=>UW a hl hn λvs pl t k z=>by
  have zl:vs.length=b+h:=by
   obtain⟨_,_,q,_⟩:=z;exact q
  exact z.next hi trivial rfl (iB _) (Na zl) λ⟨us,v,e,c⟩=>⟨us,v,by rw[e];rfl,c⟩
theorem oV'(hp:1<=L.length)(hi:bd[p]?=Z (.dX 118)):eO ⟨gM bd en el g0,bK⟩ L G b (Z (h+2)) [.dX 118] (Z (h+1)) (Rt bd en el g0 (b+(h+2)) p F O2) (Rt bd en el g0 (b+(h+1)) (p+1) F O3):=
 .eY (.plain (bM rfl) (bM rfl) (bM rfl) (bM rfl) (bM rfl)) λx n a hl hn _=>qt a hl hn hp (by decide) λvs aN v pl t k z=>by
  have zl:(vs++[aN,v]).length=b+(h+2):=by
   obtain⟨_,_,q,_⟩:=z;exact q
  refine z.next hi ⟨dL 2 (b+h),by decide⟩ (by
   show BO.to ⟨p+1,(vs++[aN,v]).dropLast.dropLast++[kS 118 (cR (vs++[aN,v]).dropLast) (cR (vs++[aN,v]))],pl,F,t⟩=_;rw[Ja,tQ,rQ,tQ,rQ]) (iB _) (KR (m:=b+h) (i:=2) (j:=1) zl rfl rfl) λ⟨us,w,e,c⟩=>?_
  rw[Ja]at e;have e1:=LQ e rfl;have e2:=LQ e1.1 rfl;refine⟨vs,_,rfl,?_⟩;rw[(Gw e1.2).1,(Gw e2.2).1];exact⟨fg' c.1,c.2⟩
theorem oU'(hp:1<=L.length)(hi:bd[p]?=Z (.mF 3)):eO ⟨gM bd en el g0,bK⟩ L G b (Z (h+1)) [.mF 3] (Z (h+1)) (Rt bd en el g0 (b+(h+1)) p F O3) (Rt bd en el g0 (b+(h+1)) (p+1) F O4):=
 .eY (.plain (bM rfl) (bM rfl) (bM rfl) (bM rfl) (bM rfl)) λx n a hl hn _=>qs a hl hn hp ⟨by decide,by decide⟩ λvs v pl t k z=>by
  have zl:(vs++[v]).length=b+(h+1):=by
   obtain⟨_,_,q,_⟩:=z;exact q
  have Bs:pl.length=4:=by
   obtain⟨_,_,_,_,_,_,_,_,q⟩:=z;exact q
  refine z.next hi ⟨dL 1 (b+h),by decide,by rw[Bs];decide⟩ (by
   show BO.to (BS.mk _ _ _ _ _)=_;rw[rQ]) (iB _) zl λ⟨us,w,e,c,l⟩=>⟨vs,v,rfl,?_,by rw[mI];exact l,?_⟩
  ·rw[(Gw (LQ e rfl).2).1];exact c
  ·show (pl.set 3 v).getD 3 0=v
   rw[sW,jZ (by rw[l];decide)];rfl
theorem O4.rs(z:Rt bd en el g0 m p F O4 vs pl t k):Rs bd en el g0 m p F vs pl t k:=by obtain⟨n,r,h1,h2,us,v,e,⟨c1,c2⟩,l,d⟩:=z;refine⟨n,r,⟨h1,l⟩,h2,?_,d▸c2⟩;rw[d];rw[xl,VM,VN 2 v,<-VM]at c1;have:0<=(2:J)^k*v:=Int.mul_nonneg (xk (by decide)) c2;lia
theorem oQ'(c:Ctx bd en el g0 (L++[(q,u)]) G b e (F++[f]))(Hu:q<=2)(hi:bd[p]?=Z (.gZ 0)):eO ⟨gM bd en el g0,bK⟩ (L++[(q,u)]) G b (Z (q+1)) [.gZ 0] (Z q) (Rt bd en el g0 (b+(q+1)) p (F++[f]) O4) (Rs bd en el g0 (b+q) (p+1) (F++[f])):=by
 have fl:(F++[f]).length+1=(L++[(q,u)]).length:=c.fl;rw[bA,bA]at fl;have Qr:F.length+1=L.length:=G1 fl;have e0:(L++[(q,u)]).length-1-0=F.length+1:=by rw[bA,Qr];rfl
 have hL:(L++[(q,u)])[F.length+1]?=Z (q,u):=by rw[Qr,kZ]
 have hG:=cS (l:=G) (i:=F.length+1) (by rw[c.gl,bA,<-Qr];exact iB _);generalize G[F.length+1]'_=g at hG;obtain⟨o1,o2,o3,_,o5⟩:=c.ok _ _ _ _ _ hL hG kZ;obtain⟨q1,q2,q3⟩:=o5 rfl;rw[Il]at q3;have e1:∀{vs pl:Y J} {v:J} {t:Tl},lV en el ⟨p+1,vs++[v],pl,F++[f],t⟩ p (.gZ 0)=if v=0 then .to ⟨p+1,vs,pl,F++[f],t⟩ else .to ⟨f.fC+1,jF g.hb q vs,pl,F++[f],t⟩:=λ{vs pl v t}=>by
  show (if cR (vs++[v])=0 then BO.to ⟨p+1,(vs++[v]).dropLast,pl,F++[f],t⟩ else BS.jA ⟨p+1,(vs++[v]).dropLast,pl,F++[f],t⟩ 0)=_;rw[tQ,rQ];have:BS.jA ⟨p+1,vs,pl,F++[f],t⟩ 0= .to ⟨f.fC+1,jF g.hb q vs,pl,F++[f],t⟩:=by
   unfold BS.jA;rw[aR (by rw[bA];exact (a8 _).symm)];show (match (F++[f])[(F++[f]).length-1-0]? with|none=>BO.mM|some f'=>if f'.code=3 then BO.to ⟨f'.fC+1,jF f'.iH f'.params vs,pl,(F++[f]).take ((F++[f]).length-1-0)++[f'],t⟩ else .to ⟨f'.aS+1,jF f'.iH f'.gS vs,pl,(F++[f]).take ((F++[f]).length-1-0),t⟩)=_;have:(F++[f]).length-1-0=F.length:=by rw[bA];rfl
   rw[this,kZ];dsimp only;rw[aZ q1,Il,o1,q2]
  rw[this]
 have zM:AS (b+(q+1)) 4 (F++[f]) (.gZ 0):=by
  refine⟨dL 1 (b+q),nD _,λe=>?_,λf' _ sK=>?_⟩;rw[bA]at e;exact absurd e (a8 _).symm
  ·have:(F++[f]).length-1-0=F.length:=by rw[bA];rfl
   rw[this,kZ]at sK;rw[<-aT sK,aZ q1,q2,o1];exact dP o2 q
 refine .eY (.plain (bM rfl) (bM rfl) (bM rfl) (bM rfl) (bM rfl)) λx n a hl hn _=>qo a hl hn (by rw[bA];exact BP _) (e0.symm▸hL) (e0.symm▸hG) (cE q) Hu (λvs v pl t k z hv=>?_) λvs v pl t k z hv=>?_
 ·show kk g.bb _ _ _ (k+1)
  rw[q3];obtain⟨n,r,h1,h2,us,w,e,⟨d1,d2⟩,l,d⟩:=id z;have zl:vs.length=b+q:=Ay (O4.rs z).len;have ew:v=w:=(Gw (LQ e rfl).2).1;exact (O4.rs z).gK hi zM (e1.trans (aR hv)) (QS (by rw[zl];exact aL o2 (bU _ _)) (by rw[zl];exact dL _ _)) l (d▸d1) (by rw[d,<-ew];rw[<-ew]at d2;lia)
 ·exact (O4.rs z).next hi zM (e1.trans (aZ hv)) (iB _) (Ay (O4.rs z).len) ⟨rfl,rfl⟩
theorem dd'(c:Ctx bd en el g0 (L++[(q,u)]) G b e (F++[f]))(Hu:q<=2)(hb:∀j,j<5->bd[p+j]?=wD[j]?):eO ⟨gM bd en el g0,bK⟩ (L++[(q,u)]) G b (Z q) wD (Z q) (Rs bd en el g0 (b+q) p (F++[f])) (Rs bd en el g0 (b+q) (p+5) (F++[f])):=by
 have mQ:1<=(L++[(q,u)]).length:=by rw[bA];exact BP _
 exact .dI (ca:=[.get 3]) (oR' (hb 0 (by decide))) (.dI (ca:=[.const 1]) (oT' (hb 1 (by decide))) (.dI (ca:=[.dX 118]) (oV' mQ (hb 2 (by decide))) (.dI (ca:=[.mF 3]) (oU' mQ (hb 3 (by decide))) (oQ' c Hu (hb 4 (by decide))))))
end
structure Pn(B:Y aI)(en el:O->aG O):Prop where
 eY:∀p i a post,B.drop p=i::(a++[.aS])++post->(i.code=2\/i.code=3\/i.code=4)->iS a->en p=Z (p+1+a.length)/\el p=aB
 sD:∀p m a b post,B.drop p= .iff m::(a ++ .dG::(b++[.aS]))++post->iS a->iS b->en p=Z (p+1+a.length+1+b.length)/\el p=Z (p+1+a.length)
theorem pM{r:Y aI}{p:O}{i:aI}(h:B.drop p=i::r):B[p]?=Z i:=by have:=I3 (xs:=B) (i:=p) (j:=0);rw[h]at this;exact this.symm
theorem Fm{a r:Y aI}{p:O}(h:B.drop p=a++r):B.drop (p+a.length)=r:=by rw[<-List.drop_drop,h,xx]
theorem MR{r:Y aI}{p:O}{i:aI}(h:B.drop p=i::r):B.drop (p+1)=r:=Fm (a:=[i]) h
theorem MC{a:Y aI}{i:aI}{p:O}(h:B.drop p=i::(a++[.aS])++post):A3 (B[p]?=Z i) (B[p+1+a.length]?=Z .aS) (B.drop (p+1)=a++(.aS::post)):=by have h1:B.drop p=i::(a++(.aS::post)):=h.trans (aW (i:: ·) (fB a [.aS] post));exact⟨pM h1,pM (Fm (MR h1)),MR h1⟩
section
variable{el:O->aG O}{g0:BS}{bK:As}
theorem mR'(hB:∀(p:O) (i:aI),B[p]?=Z i->bd[p]?=Z i)(hE:Pn B en el){L:Y (O×aC)}{h h':aG O}{code:Y aI}(s:dR L h code h'):∀{G:Y Gf} {b e p:O} {F:Y BF} {post:Y aI},Ctx bd en el g0 L G b e F->(∀q∈L,q.1<=2)->B.drop p=code++post->p+code.length<=e->eO ⟨gM bd en el g0,bK⟩ L G b h code h' (Cm bd en el g0 b h p F) (Cm bd en el g0 b h' (p+code.length) F):=by
 induction s with
 | nil=>exact λ_ _ _ _=>.nil
 | dI s1 s2 i1 i2=>
  intro G b e p F post c h2 hd hp;rw[bA,<-gC]at hp ⊢;rw[fB]at hd;exact .dI (i1 c h2 hd (aL (bU _ _) hp)) (i2 c h2 (Fm hd) hp)
 | const=>exact λc h2 hd hp=>cS' (hB _ _ (pM hd))
 | get q0 q1=>exact λc h2 hd hp=>cW' q0 q1 (hB _ _ (pM hd))
 | set q0 q1=>exact λc h2 hd hp=>db' (c.fl▸dL _ _) q0 q1 (hB _ _ (pM hd))
 | mF q0 q1=>exact λc h2 hd hp=>de' (c.fl▸dL _ _) q0 q1 (hB _ _ (pM hd))
 | drop=>exact λc h2 hd hp=>cT' (c.fl▸dL _ _) (hB _ _ (pM hd))
 | kI=>exact λc h2 hd hp=>da' (c.fl▸dL _ _) (hB _ _ (pM hd))
 | dX gX=>exact λc h2 hd hp=>df' (dR.vN (L:=[]) (.dX (h:=0) gX)) (c.fl▸dL _ _) gX (hB _ _ (pM hd))
 | jQ=>exact λc h2 hd hp=>cV' (c.fl▸dL _ _) (hB _ _ (pM hd))
 | call=>exact λc h2 hd hp=>cR' (c.fl▸dL _ _) (hB _ _ (pM hd))
 | pA=>exact λc h2 hd hp=>cY' (hB _ _ (pM hd))
 | gZ Aj hL hm=>exact λc h2 hd hp=>cQ' c hp Aj hL hm (h2 _ (oF hL)) (hB _ _ (pM hd))
 | br Aj hL hm=>exact λc h2 hd hp=>cP' c hp Aj hL hm (h2 _ (oF hL)) (hB _ _ (pM hd))
 | ret hm=>exact λc h2 hd hp=>cZ' (c.fl▸dL _ _) hm (hB _ _ (pM hd))
 | qS=>exact λ{G b e p F post} c h2 hd hp=>dg' (h':=aB) (hB _ _ (pM hd))
 | hO h3 qJ=>exact λc h2 hd hp=>dc' c hp (dH h3) (by rw[h3];decide) h2 qJ (hB _ _ (pM hd))
 | zE b=>exact λc h2 hd hp=>.zE b
 | @block L h m q r a h' hm s he ih=>
  intro G b e p F post c h2 hd hp;obtain⟨d1,d2,d3⟩:=MC hd;have hl:p+(aI.block m::(a++[.aS])).length=p+1+a.length+1:=by rw[Bb];lia
  rw[hl]at hp ⊢;have hr:=(DN hm).2;show eO _ _ _ _ _ _ _ (Rs bd en el g0 (b+(h+q)) p F) (Rs bd en el g0 (b+(h+r)) _ F);rw[<-gC,<-gC];refine cO' c hm (hE.eY p _ a post hd (.inl rfl) s.vN).1 (hB _ _ d1) (hB _ _ d2) (kT hp) he.symm λG' f c'=>ih c' (λq hq=>?_) d3 (cE _);rcases oQ.mp hq with h3|h3
  exact h2 q h3;rw[iU.mp h3];exact hr
 | @loop L h m q a hm s ih=>
  intro G b e p F post c h2 hd hp;obtain⟨d1,d2,d3⟩:=MC hd;have hl:p+(aI.loop m::((a++wD)++[.aS])).length=p+1+(a++wD).length+1:=by rw[Bb];lia
  rw[hl]at hp ⊢;have hr:=(DN hm).2;show eO _ _ _ _ _ _ _ (Rs bd en el g0 (b+(h+q)) p F) (Rs bd en el g0 (b+(h+q)) _ F);rw[<-gC];have qI:iS (a++wD):=.dI s.vN (iS.Ga (by decide));refine XE (h1:=Z q) c hm (hE.eY p _ _ post hd (.inr (.inl rfl)) qI).1 (hB _ _ d1) (hB _ _ d2) (kT hp) (.inr rfl) λG' f c'=>?_;have ER:∀w∈L++[(q,u)],w.1<=2:=λw hq=>by
   rcases oQ.mp hq with h3|h3
   exact h2 w h3;rw[iU.mp h3];exact hr
  have e1:p+1+(a++wD).length=p+1+a.length+5:=by rewrite [bA,<-gC];rfl
  rw[e1]at c' ⊢;rw[fB]at d3;refine .dI (ih c' ER d3 (bU _ 5)) (dd' c' hr λj hj=>?_);have d4:=Fm d3;have:∀i,wD[j]?=Z i->bd[p+1+a.length+j]?=Z i:=λi hi=>hB _ _ (by
   rw[<-I3,d4,gO hj];exact hi)
  rw[this _ (cS (l:=wD) hj),cS (l:=wD) hj]
 | @Sx L h m q a hm s ih=>
  intro G b e p F post c h2 hd hp;obtain⟨d1,d2,d3⟩:=MC hd;have hl:p+(aI.loop m::(a++[.aS])).length=p+1+a.length+1:=by rw[Bb];lia
  rw[hl]at hp ⊢;have hr:=(DN hm).2;show eO _ _ _ _ _ _ _ (Rs bd en el g0 (b+(h+q)) p F) (Rs bd en el g0 (b+(h+q)) _ F);rw[<-gC];refine XE (h1:=aB) c hm (hE.eY p _ a post hd (.inr (.inl rfl)) s.vN).1 (hB _ _ d1) (hB _ _ d2) (kT hp) (.inl rfl) λG' f c'=>ih c' (λq hq=>?_) d3 (cE _);rcases oQ.mp hq with h3|h3
  exact h2 q h3;rw[iU.mp h3];exact hr
 | @iff L h m q a h' hm s he ih=>
  intro G b e p F post c h2 hd hp;obtain⟨d1,d2,d3⟩:=MC hd;have hl:p+(aI.iff m::(a++[.aS])).length=p+1+a.length+1:=by rw[Bb];lia
  rw[hl]at hp ⊢;have hr:=(DN hm).2;show eO _ _ _ _ _ _ _ (Rs bd en el g0 (b+(h+q+1)) p F) (Rs bd en el g0 (b+(h+q)) _ F);rw[<-gC,<-gC];have Ak:=hE.eY p _ a post hd (.inr (.inr rfl)) s.vN;refine cX' c hm Ak.1 Ak.2 (hB _ _ d1) (hB _ _ d2) (kT hp) he.symm λG' f c'=>ih c' (λq hq=>?_) d3 (cE _);rcases oQ.mp hq with h3|h3
  exact h2 q h3;rw[iU.mp h3];exact hr
 | @dG L h m q r a h' cb Ai hm s1 he s2 pN i1 i2=>
  intro G b e p F post c h2 hd hp;have Ak:=hE.sD p m a cb post hd s1.vN s2.vN;have Aj:B.drop p=aI.iff m::(a++(.dG::(cb++(.aS::post)))):=by rw[hd];simp only[LS,fB,I7]
  have d1:=pM Aj;have d2:=MR Aj;have d3:=pM (Fm d2);have d4:=MR (Fm d2);have d5:=pM (Fm d4);have hl:p+(aI.iff m::(a ++ .dG::(cb++[.aS]))).length=p+1+a.length+1+cb.length+1:=by
   rw[wP,bA,Bb];lia
  rw[hl]at hp ⊢;have hr:=(DN hm).2;show eO _ _ _ _ _ _ _ (Rs bd en el g0 (b+(h+q+1)) p F) (Rs bd en el g0 (b+(h+r)) _ F);rw[<-gC,<-gC,<-gC];have ER:∀w∈L++[(r,aE)],w.1<=2:=λw hq=>by
   rcases oQ.mp hq with h3|h3
   exact h2 w h3;rw[iU.mp h3];exact hr
  exact cU' c hm rfl rfl Ak.1 Ak.2 (hB _ _ d1) (hB _ _ d3) (hB _ _ d5) (kT hp) he.symm pN.symm (λG' f c'=>i1 c' ER d2 (cE _)) λG' f c'=>i2 c' ER d4 (cE _)
end
section
variable{el:O->aG O}{pl0:Y J}{bK:As}{G:Y Gf}{h':aG O}
noncomputable def sB(pl0:Y J):BS:=⟨0,[],pl0,[],[]⟩
def Fa(pl0:Y J):As:=λs t k=>kR s=pl0/\t=[]/\k=0
theorem gm'(hi:bd[0]?=Z (.const 7))(Bs:pl0.length=4):eO ⟨gM bd en el (sB pl0),bK⟩ L G 0 (Z 0) [.const 7] (Z 1) (λvs pl t k=>vs=[]/\pl=pl0/\t=[]/\k=0) (Rt bd en el (sB pl0) 1 1 [] λvs pl k=>vs=[7]/\pl.length=4/\k=0):=
 .eY (.plain (bM rfl) (bM rfl) (bM rfl) (bM rfl) (bM rfl)) λx n a hl hn _=>UW a hl hn λvs pl t k ⟨z1,z2,z3,z4⟩=>by
  have z:Rt bd en el (sB pl0) 0 0 [] (λvs pl k=>vs=[]/\pl.length=4/\k=0) vs pl t k:=by
   rw[z1,z2,z3,z4];exact⟨0,.start,rfl,by decide,rfl,Bs,rfl⟩
  exact z.next hi trivial rfl (by decide) (by rw[z1];rfl) λq=>⟨by rw[q.1];rfl,q.2⟩
theorem gn'(hp:1<=L.length)(hi:bd[1]?=Z (.set 3)):eO ⟨gM bd en el (sB pl0),bK⟩ L G 0 (Z 1) [.set 3] (Z 0) (Rt bd en el (sB pl0) 1 1 [] λvs pl k=>vs=[7]/\pl.length=4/\k=0) (Rs bd en el (sB pl0) 0 2 []):=
 .eY (.plain (bM rfl) (bM rfl) (bM rfl) (bM rfl) (bM rfl)) λx n a hl hn _=>qr a hl hn hp ⟨by decide,by decide⟩ λvs v pl t k z=>by
  obtain⟨n,r,h1,h2,e,l,k0⟩:=z;obtain⟨e1,e2⟩:=LQ (show vs++[v]=[]++[7] from e) rfl;have ev:v=7:=(Gw e2).1;subst e1 ev;have e3:(pl.set 3 7).getD 3 0=7:=by
   rw[sW,jZ (by rw[l];decide)];rfl
  refine⟨n+1,.uN r (.of (g:=⟨1,[7],pl,[],t⟩) hi ⟨cE 1,by decide,by show (3:J)<(pl.length:J);rw[l];decide⟩) ((HP (g:=⟨1,[7],pl,[],t⟩) hi).trans rfl) (iB _),⟨rfl,mI.trans l⟩,h2,?_,?_⟩
  ·show (2:J)^k*(pl.set 3 7).getD 3 0<=7
   rw[e3,k0];decide
  ·show (0:J)<=(pl.set 3 7).getD 3 0
   rw[e3];decide
theorem pK'(h:vs.length=2):jF 0 2 vs=vs:=by unfold jF;rw[h];rfl
theorem cD'(h4:pl0.length=4)(s:dR [(2,aE)] (Z 0) bL h')(he:D6 h' 2)(hn:bL.length<=230)(hb:bd=[.const 7,.set 3]++bL++[.aS])(hE:Pn ([.const 7,.set 3]++bL) en el){bB:O}: (X.gR.eG 2 0 2 bB).wp (yU ⟨gM bd en el (sB pl0),Fa pl0⟩) bd:=by
 have hB:∀(p:O) (i:aI),([aI.const 7,.set 3]++bL)[p]?=Z i->bd[p]?=Z i:=λp i h=>by rw[hb];exact rZ h
 have fu':bd[2+bL.length]?=Z .aS:=by
  rw[hb];have:2+bL.length=([aI.const 7,.set 3]++bL).length:=by rw[bA];rfl
  rw[this,kZ]
 have c:Ctx bd en el (sB pl0) [(2,aE)] [⟨λvs pl t k=>gM bd en el (sB pl0) (Z (vs.getD 0 0,vs.getD 1 0)) t,λ_ _ _ _=>False,λ_ _ _ _=>False,0,0,2⟩] 0 (2+bL.length) []:=
  ⟨rfl,rfl,λg hg=>by
   cases aT hg;exact⟨rfl,rfl,rfl⟩,λi m lp g f h1=>nomatch h1⟩
 have hs:=mR' (bK:=Fa pl0) hB hE s (p:=2) (post:=[]) c (λq hq=>by rw[iU.mp hq];decide) (by rw[pH];rfl) (cE _);have e0:bd=([aI.const 7]++([.set 3]++bL))++[.aS]:=hb;have hsc:=eO.dI (gm' (L:=[(2,aE)]) (G:=[⟨λvs pl t k=>gM bd en el (sB pl0) (Z (vs.getD 0 0,vs.getD 1 0)) t,λ_ _ _ _=>False,λ_ _ _ _=>False,0,0,2⟩]) (bK:=Fa pl0) (hB 0 _ rfl) h4) (.dI (gn' (by decide) (hB 1 _ rfl)) hs);refine Eq.mp (aW (λc=>X.wp (yU ⟨gM bd en el (sB pl0),Fa pl0⟩) c (X.gR.eG 2 0 2 bB)) e0.symm) ?_;refine cI' _ _ _ hsc ?_ he.symm (λvs pl t k z=>?_) (λaN v pl t k z=>z) λs t k z=>⟨rfl,z.1,z.2.1,z.2.2⟩
 ·show bL.length+2<=236
  exact aL (dP hn 2) (by decide)
 ·rcases he with e|e
  ·rw[e]at z
   have z:Rs bd en el (sB pl0) (0+2) (2+bL.length) [] vs pl t k:=z;refine z.lB fu' (λ_=>by decide) ?_;show BO.lB (B8 vs) t=_;unfold B8;rw[pK' z.len]
  ·rw[e]at z;exact Iz z
end
structure Sc where
 en:O->aG O
 el:O->aG O
 op:Y O
noncomputable def AK(f:O->aG O)(j v:O):O->aG O:=λi=>if i=j then Z v else f i
def iG(i:aI)(p:O)(s:Sc):Sc:=
 if i.code=2\/i.code=3\/i.code=4 then {s with op:=s.op++[p]}
 else match s.op.getLast? with
  | none=>s
  | some j=>if i.code=5 then {s with el:=AK s.el j p} else if i.code=11 then {s with en:=AK s.en j p,op:=s.op.dropLast} else s
def eI:Y aI->O->Sc->Sc
 | [],_,s=>s
 | i::r,p,s=>eI r (p+1) (iG i p s)
theorem El{b:Y aI}:∀{a:Y aI} {p:O} {s:Sc},eI (a++b) p s=eI b (p+a.length) (eI a p s)
 | [],p,s=>rfl
 | i::r,p,s=>by
  show eI (r++b) (p+1) _=_;rw[El,gC,nB 1];rfl
theorem OT{i:aI}{p:O}{s:Sc}(h:i.code=2\/i.code=3\/i.code=4):iG i p s= {s with op:=s.op++[p]}:=aZ h
theorem mw'{p:O}{el:O->aG O}{l:Y O}: iG .dG p ⟨en,el,l++[j]⟩=⟨en,AK el j p,l++[j]⟩:=by unfold iG;rw[aR (by decide),Ds];rfl
theorem nu{p:O}{el:O->aG O}{l:Y O}: iG .aS p ⟨en,el,l++[j]⟩=⟨AK en j p,el,l⟩:=by unfold iG;rw[aR (by decide),Ds];show Sc.mk _ _ (l++[j]).dropLast=_;rw[CT]
theorem UD{i:aI}{p:O}{s:Sc}(h1:i.code≠2)(h2:i.code≠3)(h3:i.code≠4)(h4:i.code≠5)(h5:i.code≠11):iG i p s=s:=by unfold iG;rw[aR (λq=>q.elim h1 (λq=>q.elim h2 h3))];split;rfl;rw[aR h4,aR h5]
theorem Gq{f:O->aG O}{v i:O}(h:i≠j):AK f j v i=f i:=aR h
theorem Ut{f:O->aG O}{v:O}: AK f j v j=Z v:=aZ rfl
def vK(s s':Sc)(p q:O):Prop:=s'.op=s.op/\∀i,i<p\/q<=i->s'.en i=s.en i/\s'.el i=s.el i
theorem W8{a:Y aI}{i:aI}(hi:i.code=2\/i.code=3\/i.code=4)(ih:∀p s,vK s (eI a p s) p (p+a.length))(p:O)(s:Sc):vK s (eI (i::(a++[.aS])) p s) p (p+(i::(a++[aI.aS])).length)/\(eI (i::(a++[.aS])) p s).en p=Z (p+1+a.length)/\(eI (i::(a++[.aS])) p s).el p=s.el p:=by show vK s (eI (a++[.aS]) (p+1) (iG i p s)) _ _/\(eI (a++[.aS]) (p+1) (iG i p s)).en p=_/\(eI (a++[.aS]) (p+1) (iG i p s)).el p=_;rw[OT hi,El,Bb];have h:=ih (p+1) {s with op:=s.op++[p]};generalize eI a (p+1) {s with op:=s.op++[p]}= s1 at *;obtain⟨en,el,op⟩:=s1;obtain⟨h1,h2⟩:=h;have h1:op=s.op++[p]:=h1;subst h1;show vK s (iG .aS (p+1+a.length) _) _ _/\(iG .aS (p+1+a.length) _).en p=_/\(iG .aS (p+1+a.length) _).el p=_;rw[nu];refine⟨⟨rfl,λi hi=>?_⟩,Ut,(h2 p (.inl (iB p))).2⟩;have en:p+(a.length+2)<=i->p+1+a.length<=i:=λq=>aL (dH (hS p 1 _)) (kT q);obtain⟨e1,e2⟩:=h2 i (hi.imp yP en);exact⟨(Gq λe=>hi.elim (λq=>mK q e) λq=>rU (eP KU (en q)) e).trans e1,e2⟩
theorem X1{a b:Y aI}(ih:∀p s,vK s (eI a p s) p (p+a.length))(jh:∀p s,vK s (eI b p s) p (p+b.length))(p:O)(s:Sc):vK s (eI (.iff m::(a ++ .dG::(b++[.aS]))) p s) p (p+(aI.iff m::(a ++ .dG::(b++[aI.aS]))).length)/\(eI (.iff m::(a ++ .dG::(b++[.aS]))) p s).en p=Z (p+1+a.length+1+b.length)/\(eI (.iff m::(a ++ .dG::(b++[.aS]))) p s).el p=Z (p+1+a.length):=by
 show vK s (eI (a ++ .dG::(b++[.aS])) (p+1) (iG (.iff m) p s)) _ _/\(eI (a ++ .dG::(b++[.aS])) (p+1) (iG (.iff m) p s)).en p=_/\(eI (a ++ .dG::(b++[.aS])) (p+1) (iG (.iff m) p s)).el p=_;have hl:p+(aI.iff m::(a ++ .dG::(b++[.aS]))).length=p+1+a.length+1+b.length+1:=by
  rw[wP,bA,Bb];lia
 rw[OT (i:=.iff m) (.inr (.inr rfl)),El,hl];have h:=ih (p+1) {s with op:=s.op++[p]};generalize eI a (p+1) {s with op:=s.op++[p]}= s1 at *;obtain⟨en,el,op⟩:=s1;obtain⟨h1,h2⟩:=h;have h1:op=s.op++[p]:=h1;subst h1;show vK s (eI (b++[.aS]) _ (iG .dG (p+1+a.length) _)) _ _/\(eI (b++[.aS]) _ (iG .dG (p+1+a.length) _)).en p=_/\(eI (b++[.aS]) _ (iG .dG (p+1+a.length) _)).el p=_;rw[mw',El];have h:=jh (p+1+a.length+1) ⟨en,AK el p (p+1+a.length),s.op++[p]⟩;generalize eI b (p+1+a.length+1) ⟨en,AK el p (p+1+a.length),s.op++[p]⟩=s2 at *;obtain⟨en2,el2,uU⟩:=s2;obtain⟨h3,h4⟩:=h;have h3:uU=s.op++[p]:=h3;subst h3;show vK s (iG .aS _ _) _ _/\(iG .aS _ _).en p=_/\(iG .aS _ _).el p=_;rw[nu];refine⟨⟨rfl,λi hi=>?_⟩,Ut,(h4 p (.inl (yP KU))).2.trans Ut⟩;obtain⟨e1,e2⟩:=h2 i (hi.imp yP dg);obtain⟨e3,e4⟩:=h4 i (hi.imp (λq=>bT q (yP KU)) kT);have gF:i≠p:=λe=>hi.elim (λq=>mK q e) λq=>rU (eP KU (dg q)) e;exact⟨(Gq gF).trans (e3.trans e1),e4.trans ((Gq gF).trans e2)⟩
theorem vK.refl{s:Sc}{p q:O}: vK s s p q:=⟨rfl,λ_ _=>⟨rfl,rfl⟩⟩
theorem QH{a:Y aI}(b:iS a):∀p s,vK s (eI a p s) p (p+a.length):=by
 induction b with
 | nil=>exact λp s=>.refl
 | dI _ _ i1 i2=>
  intro p s;rw[El,bA,<-gC];obtain⟨e1,e2⟩:=i1 p s;obtain⟨e3,e4⟩:=i2 (p+a_1.length) (eI a_1 p s);refine⟨e3.trans e1,λi hi=>?_⟩;have q1:=e2 i (hi.imp id (aL (bU _ _)));have q2:=e4 i (hi.imp (λq=>eP q (bU _ _)) id);exact⟨q2.1.trans q1.1,q2.2.trans q1.2⟩
 | plain h1 h2 h3 h4 h5=>
  intro p s;show vK s (iG _ p s) _ _;rw[UD h1 h2 h3 h4 h5];exact .refl
 | uH hi _ ih=>exact λp s=>(W8 hi ih p s).1
 | dG _ _ i1 i2=>exact λp s=>(X1 i1 i2 p s).1
def HG(s:Sc)(p:O):Prop:=(∀j∈s.op,j<p)/\∀i,p<=i->s.en i=aB/\s.el i=aB
theorem my'{i:aI}{p:O}{s:Sc}(h:HG s p):HG (iG i p s) (p+1):=by
 obtain⟨h1,h2⟩:=h;unfold iG;by_cases e:i.code=2\/i.code=3\/i.code=4
 ·rw[aZ e]
  refine⟨λj hj=>?_,λj hj=>h2 j (kT hj)⟩;rcases oQ.mp hj with q|q
  exact yP (h1 j q);rw[iU.mp q];exact iB p
 rw[aR e];cases hl:s.op.getLast? with
 | none=>exact⟨λj hj=>yP (h1 j hj),λj hj=>h2 j (kT hj)⟩
 | some j0=>
  have ne:∀j,p+1<=j->j≠j0:=λj hj=>rU (bT (h1 j0 (PD hl)) hj);dsimp only;by_cases e5:i.code=5
  ·rw[aZ e5]
   exact⟨λj hj=>yP (h1 j hj),λj hj=>⟨(h2 j (kT hj)).1,(Gq (ne j hj)).trans (h2 j (kT hj)).2⟩⟩
  rw[aR e5];by_cases e6:i.code=11
  ·rw[aZ e6]
   exact⟨λj hj=>yP (h1 j ((O8 _).mem hj)),λj hj=>⟨(Gq (ne j hj)).trans (h2 j (kT hj)).1,(h2 j (kT hj)).2⟩⟩
  ·rw[aR e6]
   exact⟨λj hj=>yP (h1 j hj),λj hj=>h2 j (kT hj)⟩
theorem oc:∀{a:Y aI} {p:O} {s:Sc},HG s p->HG (eI a p s) (p+a.length)
 | [],p,s,h=>h
 | i::r,p,s,h=>by
  have:=oc (a:=r) (my' (i:=i) h);rw[gC,nB 1]at this;exact this
theorem mx'{i:aI}{p q:O}{s:Sc}(h:q∉s.op)(hp:q<p):q∉(iG i p s).op/\(iG i p s).en q=s.en q/\(iG i p s).el q=s.el q:=by
 unfold iG;by_cases e:i.code=2\/i.code=3\/i.code=4
 ·rw[aZ e]
  refine⟨λhj=>?_,rfl,rfl⟩;rcases oQ.mp hj with w|w
  exact h w;exact absurd (iU.mp w) (mK hp)
 rw[aR e];cases hl:s.op.getLast? with
 | none=>exact⟨h,rfl,rfl⟩
 | some j0=>
  have ZH:q≠j0:=λw=>h (w▸PD hl);dsimp only;by_cases e5:i.code=5
  ·rw[aZ e5]
   exact⟨h,rfl,Gq ZH⟩
  rw[aR e5];by_cases e6:i.code=11
  ·rw[aZ e6]
   exact⟨λw=>h ((O8 _).mem w),Gq ZH,rfl⟩
  ·rw[aR e6]
   exact⟨h,rfl,rfl⟩
theorem oa:∀{a:Y aI} {p q:O} {s:Sc},q∉s.op->q<p->(eI a p s).en q=s.en q/\(eI a p s).el q=s.el q
 | [],p,q,s,h,hp=>⟨rfl,rfl⟩
 | i::r,p,q,s,h,hp=>by
  obtain⟨h1,h2,h3⟩:=mx' (i:=i) h hp;obtain⟨h4,h5⟩:=oa (a:=r) h1 (yP hp);exact⟨h4.trans h2,h5.trans h3⟩
noncomputable def mT:Sc:=⟨λ_=>aB,λ_=>aB,[]⟩
theorem mz'{x:Y aI}{p:O}(h:B.drop p=x++post)(hp:p<=B.length):∃s1,HG s1 p/\eI B 0 mT=eI post (p+x.length) (eI x p s1):=by
 have e:B=B.take p++(x++post):=by rw[<-h,Vf]
 have hl:(B.take p).length=p:=PB hp;have lw:=oc (a:=B.take p) (p:=0) (s:=mT) ⟨λj hj=>absurd hj nA,λ_ _=>⟨rfl,rfl⟩⟩;rw[hl,nQ]at lw;refine⟨_,lw,?_⟩;refine (aW (λq=>eI q 0 mT) e).trans ?_;show eI (B.take p++(x++post)) 0 mT=_;rw[El,El,hl,nQ]
theorem nz{x:Y aI}{p y z:O}(h:B.drop p=x++post)(h1:1<=x.length)(w:∀s,(eI x p s).op=s.op):∃s1,HG s1 p/\(eI B 0 mT).en p=(eI x p s1).en p/\(eI B 0 mT).el p=(eI x p s1).el p:=by
 have hp:p<=B.length:=by
  by_cases e:p<=B.length;exact e
  ·rw[List.drop_eq_nil_of_le (lO (JC.mp e))]at h
   rw[(List.append_eq_nil_iff.mp h.symm).1]at h1;exact absurd h1 (by decide)
 obtain⟨s1,l1,e2⟩:=mz' h hp;have:=oa (a:=post) (p:=p+x.length) (q:=p) (s:=eI x p s1) (by rw[w];exact λq=>tY _ (l1.1 p q)) (PK h1);rw[e2];exact⟨s1,l1,this⟩
theorem mA': Pn B (eI B 0 mT).en (eI B 0 mT).el:=by
 refine⟨λp i a post h hi hb=>?_,λp m a b post h ha hb=>?_⟩
 ·have hs:=W8 hi (QH hb) p
  obtain⟨s1,l1,e1,e2⟩:=nz (y:=0) (z:=0) h (by rw[wP];exact dL _ _) λs=>(hs s).1.1;exact⟨e1.trans (hs s1).2.1,e2.trans ((hs s1).2.2.trans (l1.2 p (cE p)).2)⟩
 ·have hs:=X1 (m:=m) (QH ha) (QH hb) p
  obtain⟨s1,l1,e1,e2⟩:=nz (y:=0) (z:=0) h (by rw[wP];exact dL _ _) λs=>(hs s).1.1;exact⟨e1.trans (hs s1).2.1,e2.trans (hs s1).2.2⟩
noncomputable def mP:O->Y aQ->O
 | _,[]=>0
 | k,e::r=>(if e= .pl (4+(k:J)) then 0 else 1)+mP (k+1) r
theorem HS{b:Y aQ}:∀{a:Y aQ} {k:O},mP k (a++b)=mP k a+mP (k+a.length) b
 | [],k=>(nQ _).symm
 | e::r,k=>by
  show _+mP (k+1) (r++b)=_;rw[HS,<-gC,gC k,nB 1];rfl
theorem dN': mP k [e]<=1:=by show (if _ then 0 else 1)+0<=1;split<;>decide
theorem dM'{a:Y aQ}: mP k a.dropLast<=mP k a:=by
 rcases LU a with rfl|⟨l,e,rfl⟩
 exact cE _;rw[LR,CT,HS];exact bU _ _
theorem Xm:∀{a:Y aQ} {k h:O} {e:aQ},a[h]?=Z e->mP k (a.set h (.pl (4+((k+h:O):J))))+(if e= .pl (4+((k+h:O):J)) then 0 else 1)=mP k a
 | [],k,h,e,q=>nomatch q
 | c::r,k,0,e,q=>by
  cases aT q;show (if aQ.pl (4+((k+0:O):J))= .pl (4+(k:J)) then 0 else 1)+mP (k+1) r+_=(if c=_ then 0 else 1)+mP (k+1) r;rewrite [Nat.add_zero,aZ rfl,nQ,nB];rfl
 | c::r,k,h+1,e,q=>by
  have:=Xm (a:=r) (k:=k+1) (h:=h) (e:=e) q;rw[show k+1+h=k+(h+1) by lia]at this;show (if c=_ then 0 else 1)+mP (k+1) (r.set h _)+_=(if c=_ then 0 else 1)+mP (k+1) r;rw[gC,this]
theorem QW:∀{n:O},mP 0 (X.eB n)=0
 | 0=>rfl
 | n+1=>by
  have:X.eB (n+1)=X.eB n++[.pl (4+(n:J))]:=by unfold X.eB;rw[I8,kM];rfl
  rw[this,HS,QW];show 0+((if aQ.pl (4+(n:J))= .pl (4+((0+(X.eB n).length:O):J)) then 0 else 1)+0)=0;have:(X.eB n).length=n:=by unfold X.eB;rw[cJ,pI]
  rw[this,nQ,nQ n,aZ rfl]
def rd(x:X):O:=x.aP.length+mP 0 x.R
theorem kq'{x y:X}(h1:y.aP=x.aP)(h2:y.R=x.R):rd y=rd x:=by unfold rd;rw[h1,h2]
section
variable{h s:J}{l:Y dF}{p:O}
variable{x:X}
theorem qQ{b:Arg}: rd (x.cH op i b c)=rd x+1:=by show (x.aP++[_]).length+mP 0 x.R=x.aP.length+mP 0 x.R+1;rw[bA];exact hS _ _ _
theorem kr: rd (x.fS s e)<=rd x+(if e= .pl s then 0 else 1):=by
 cases e with
 | num n=>exact dH qQ
 | pl t=>
  unfold X.fS;by_cases h:t=s;dsimp only;rw[aZ h];exact bU _ _
  ·dsimp only
   rw[aR h,aR (λq=>h (X6 q))];exact dH qQ
theorem OG: rd (x.fS s e)<=rd x+1:=aL kr (eR (by split<;>decide) _)
theorem kx{h:O}: rd (x.iK h)<=rd x:=by
 unfold X.iK;cases hs:x.R[h]? with
 | none=>exact cE _
 | some e=>
  have hd:=Xm (k:=0) hs;rw[nQ]at hd;have hp:=kr (x:=x) (s:=4+(h:J)) (e:=e);have nL:(x.fS (4+(h:J)) e).R=x.R:=X.Kq;unfold rd at hp ⊢;rw[nL]at hp;show (x.fS (4+(h:J)) e).aP.length+mP 0 ((x.fS (4+(h:J)) e).R.set h _)<=_;rw[nL];exact ih' hd hp
theorem kz{b:O}:∀{n:O},rd (x.sS b n)<=rd x
 | 0=>cE _
 | n+1=>aL kx kz
theorem IT: rd (x.dB n)<=rd x:=kz
theorem ku{i:J}:∀{k:O},rd (x.gA i k)<=rd x
 | 0=>cE _
 | k+1=>by
  have:=ku (i:=i) (k:=k);unfold X.gA;split;exact aL kx this;exact this
theorem Ks: rd (x.push e)<=rd x+1:=by show x.aP.length+mP 0 (x.R++[e])<=_;rw[HS,<-gC];exact eR dN' _
theorem Kr:rd x.iJ=rd x:=by show x.aP.length+mP 0 (x.R++[_])=_;rw[HS];show _+(_+((if aQ.pl (4+(x.R.length:J))= .pl (4+((0+x.R.length:O):J)) then 0 else 1)+0))=_;rw[nQ,aZ rfl];rfl
theorem AD:rd x.pop<=rd x:=eR dM' _
theorem T3:∀{n:O},rd (x.jP n)<=rd x
 | 0=>cE _
 | n+1=>aL AD T3
theorem la: rd (x.fT h e).1<=rd x+1:=by
 cases e with
 | num n=>exact dH qQ
 | pl t=>exact nC _
theorem kq{b:O}{fh:J}:∀{k:O},rd (x.rM b fh k)<=rd x+k
 | 0=>cE _
 | k+1=>by
  have:=kq (b:=b) (fh:=fh) (k:=k);unfold X.rM;split;exact aL OG (gP this);exact nP this
theorem OF: rd (x.iF fh k)<=rd x+k:=kq
theorem Gc: rd (x.cC k)=rd x:=kq' X.sI.5 X.sI.2
theorem km(h:l.length<=x.aP.length):rd {x with aP:=l} <= rd x:=dP h _
theorem cn: l.dropLast.length<=l.length:=by rw[iR];exact fW _ _
theorem kl: rd (x.dC e).1<=rd x:=by
 unfold X.dC;split
 ·split
  exact km cn;exact cE _
 ·exact cE _
theorem T2{n:J}{s:aC}{l:J}: rd (x.mO op n c s l)<=rd x+1:=by
 have h:∀{p:J} {b:Arg} {q:J},rd (x.cH p l b q)<=rd x+1:=dH qQ;unfold X.mO;split
 ·split
  exact h;exact nC _
 split;exact h;split;exact h;split;exact h;exact h
theorem kp'{n:J}: rd (x.uV n i e)<=rd x+1:=by
 unfold X.uV;split
 ·split
  rw[qQ];exact gP (km cn);exact OG
 ·exact OG
theorem ko: rd (x.lM i e)<=rd x+1:=aL kp' (gP ku)
theorem T4: rd (x.eG c p r bB)<=rd x:=by unfold X.eG X.DT;by_cases h:c=3;rw[aZ h];exact IT;rw[aR h];exact IT
theorem kt:∀{n:O},rd (x.AC n)=rd x
 | 0=>rfl
 | n+1=>Kr.trans kt
theorem ko'{f:J}: rd (x.call f p r)<=rd x+1:=by unfold X.call;rw[kt,qQ];exact gP (aL T3 IT)
theorem kt': rd (x.eY op e)<=rd x+2:=by unfold X.eY;rw[qQ,Kr];exact gP la
theorem kx'{f:aQ}: rd (x.dX op e f)<=rd x+2:=by unfold X.dX;split;rw[qQ,Kr];exact nC _;rw[qQ,Kr];exact gP la
theorem ks'{l:J}: rd (x.NZ k f aD l)<=rd x+aD+1:=by show rd (((x.cC k).iF f.bP aD).cH 259 l (.i 0) 0)<=_;rw[qQ];exact gP (aL OF (dH (aW (· + aD) Gc)))
theorem kn'{l n:J}: rd (x.gZ k f aD l op n c)<=rd x+aD+2:=by
 unfold X.gZ;dsimp only;split;exact aL T2 (by rw[Gc];lia)
 ·show rd ((((x.cC k).cY.mO op n c aE _).iF f.bP aD).cH 259 l (.i 0) 0)<=_
  rw[qQ];have h1:rd ((x.cC k).cY.mO op n c aE (x.cC k).aH.length)<=rd x+1:=aL T2 (dH (aW (· + 1) Gc));exact aL (gP (aL OF (dP h1 _))) (by lia)
theorem kv': rd (x.ret h)<=rd x+3:=by show rd ((x.iF h 2).cH 267 4 (.i 2) 0)<=_;rw[qQ];exact gP OF
theorem kr': rd (x.DD op i c n r bB)<=rd x+1:=aL T2 (gP T4)
theorem ky': rd (x.uY e)<=rd x+2:=by unfold X.uY;split;exact aL Ks (gP OG);exact aL Ks (nC _)
theorem kw': rd (x.kI e)<=rd x+2:=by
 cases e with
 | pl s=>
  show rd (X.iJ _)<=_;rw[Kr,qQ];exact nP (gP (aL T3 IT))
 | num n=>
  have hp:rd x.pop.pop<=rd x:=aL AD AD;show rd (X.Gi _ _ _)<=_;unfold X.Gi;split;exact aL ky' (dP (aL AD hp) 2);exact aL hp (bU _ _)
end
section
variable{t:TS}
variable{x:X}
theorem pG': rd (t.step d).x=rd t.x:=by
 unfold TS.step;split
 ·split
  ·exact Gc
  ·split
   exact Gc;exact Gc
 ·rfl
theorem uc:∀{ds:Y O} {t:TS},rd (t.gJ ds).x=rd t.x
 | [],t=>rfl
 | d::r,t=>(uc (ds:=r) (t:=t.step d)).trans pG'
theorem ub:∀{ds:Y O} {t:TS},(t.gJ ds).dW.length<=t.dW.length+ds.length
 | [],t=>cE _
 | d::r,t=>by
  have h1:=ub (ds:=r) (t:=t.step d);have h2:(t.step d).dW.length<=t.dW.length+1:=(TS.K4 (a:=⟨0,0,0,0,0,0,0⟩)).7;show ((t.step d).gJ r).dW.length<=t.dW.length+(r.length+1);exact aL h1 (aL (dP h2 _) (dH (by rw[gC,nB 1])))
def gL(x:X):Prop:=∀f∈x.aA,f.params<=2/\f.gS<=2
theorem ej'(h:f.params<=2/\f.gS<=2):f.aD.toNat<=2:=by unfold Fr.aD;split;exact E4.mpr h.1;exact E4.mpr h.2
theorem eh'(h:f.params<=2/\f.gS<=2):f.eW.params<=2/\f.eW.gS<=2:=by unfold Fr.eW;split<;>exact h
theorem Qo{l:Y Fr}(h:∀f∈l,f.params<=2/\f.gS<=2)(hf:f.params<=2/\f.gS<=2):∀g∈l.set k f,g.params<=2/\g.gS<=2:=λg hg=>by
 rcases yp hg with q|q
 exact h g q;rw[q];exact hf
theorem gL.eW(h:gL x):gL (x.cC k):=by
 unfold X.cC;cases hk:x.aA[k]? with
 | none=>exact h
 | some f=>exact Qo h (eh' (h f (oF hk)))
theorem gL.eq{y:X}(h:gL x)(e:y.aA=x.aA):gL y:=λf hf=>h f (e▸hf)
theorem gL.step(h:gL t.x):gL (t.step d).x:=by
 unfold TS.step;split
 ·split
  ·exact h.eW
  ·split
   exact h.eW;exact h.eW
 ·exact h
theorem gL.gJ:∀{ds:Y O} {t:TS},gL t.x->gL (t.gJ ds).x
 | [],t,h=>h
 | d::r,t,h=>gL.gJ (ds:=r) (t:=t.step d) h.step
theorem oK'{p:J×J}(h:gL x):gL (qR x p)/\rd (qR x p)<=rd x+3:=by
 unfold qR;cases hk:x.aA[cO x p.1.toNat]? with
 | none=>exact⟨h,bU _ _⟩
 | some f=>
  refine⟨h.eW.eq X.DQ,?_⟩;dsimp only;rw[qQ];refine gP (aL OF (eN (dH ?_) (ej' (h f (oF hk)))));exact Gc (k:=cO x p.1.toNat)
theorem ri:∀{ps:Y (J×J)} {x:X},gL x->gL (mU x ps)/\rd (mU x ps)<=rd x+3*ps.length
 | [],x,h=>⟨h,cE _⟩
 | p::r,x,h=>by
  obtain⟨h1,h2⟩:=oK' (p:=p) h;obtain⟨h3,h4⟩:=ri (ps:=r) h1;refine⟨h3,aL h4 ?_⟩;exact TF h2
theorem sd(h:gL x)(hn:ds.length<=3):gL (x.AY e ds)/\rd (x.AY e ds)<=rd (x.fT x.R.length e).1+10:=by have hs:gL (x.fT x.R.length e).1:=h.eq (X.xZ (e:=e)).2;have h1:gL ((TS.gJ ⟨(x.fT x.R.length e).1,[],[]⟩ ds).x.cH 262 (x.fT x.R.length e).2 (.t (TS.gJ ⟨(x.fT x.R.length e).1,[],[]⟩ ds).iD) 0):=hs.gJ (ds:=ds) (t:=⟨(x.fT x.R.length e).1,[],[]⟩);obtain⟨h2,h3⟩:=ri (ps:=(TS.gJ ⟨(x.fT x.R.length e).1,[],[]⟩ ds).dW) h1;refine⟨h2,aL h3 ?_⟩;rw[qQ,uc];have h5:(TS.gJ ⟨(x.fT x.R.length e).1,[],[]⟩ ds).dW.length<=0+ds.length:=ub (ds:=ds) (t:=⟨(x.fT x.R.length e).1,[],[]⟩);show rd (x.fT x.R.length e).1+1+3*_<=_;exact eR (yQ 3 (aL h5 (by rw[nQ];exact hn))) _
end
noncomputable def lv(x:X):O:=if x.bH then 5 else 0
noncomputable def fe(x:X):O:=if x.aA=[] then 0 else 1
theorem YD{x:X}: fe x<=1:=by unfold fe;split<;>decide
theorem Qm{x y:X}(h:y.aA.length=x.aA.length):fe y=fe x:=by unfold fe;by_cases e:x.aA=[];rw[aZ e,aZ (Dr (by rw[h,e];rfl))];rw[aR e,aR (λq=>e (Dr (by rw[<-h,q];rfl)))]
theorem KT{x:X}: lv x<=5:=by unfold lv;split<;>decide
structure Ph(x y:X):Prop where
 few:gL y
 le:rd y+lv y+fe y<=rd x+lv x+fe x+5
section
variable{x y:X}
theorem Nd(h:x.bH=u):lv x=5:=aZ h
theorem ig'(h:x.bH=aE):lv x=0:=aR (by rw[h];decide)
theorem Ph.plain(h:x.bH=u)(fw:gL x)(e:y.aA=x.aA)(r:rd y<=rd x+5):Ph x y:=
 ⟨fw.eq e,by
  rw[Nd h,Qm (x:=x) (y:=y) (by rw[e])];exact aL (dP (eN r KT) _) (dH (hS _ 5 _))⟩
theorem Ph.jA(h:x.bH=u)(h2:y.bH=aE)(fw:gL y)(e:y.aA.length=x.aA.length)(r:rd y<=rd x+10):Ph x y:=
 ⟨fw,by
  rw[Nd h,ig' h2,Qm e];exact aL (dP r _) (dH (hS (rd x+5) 5 _))⟩
theorem Ph.more(h:x.bH=u)(fw:gL y)(r:rd y<=rd x+4):Ph x y:=
 ⟨fw,by
  rw[Nd h];exact aL (eN (eN r KT) YD) (dP (bU (rd x+5) (fe x)) 5)⟩
theorem ku'(h:1<=x.R.length){k:J}: rd (x.pop.fT k x.cD).1<=rd x:=by
 have hs:x.R=x.pop.R++[x.cD]:=by
  show x.R=x.R.dropLast++[x.R.getLast?.getD (.num 0)];rcases LU x.R with q|⟨l,e,q⟩
  rw[q]at h;exact absurd h (by decide);rw[q,LR,CT,Ds];rfl
 have hr:rd x=rd x.pop+mP (0+x.pop.R.length) [x.cD]:=by
  unfold rd;have:=aW (mP 0) hs;rw[HS]at this;rw[this,<-gC];rfl
 generalize x.cD=e at *;cases e with
 | num n=>
  rw[hr];exact dH qQ
 | pl t=>rw[hr];exact bU _ _
end
theorem MW{x:X}{p:O}(h:gL x)(hp:p<=2/\r<=2):gL (x.eG c p r bB):=by
 unfold X.eG X.DT;have hs:gL (x.dB x.R.length):=h.eq X.sR;by_cases e:c=3
 ·rw[aZ e]
  intro f hf;rcases oQ.mp hf with q|q
  exact hs f q;rw[iU.mp q];exact⟨fV.mpr hp.1,fV.mpr hp.2⟩
 ·rw[aR e]
  intro f hf;rcases oQ.mp hf with q|q
  exact hs f q;rw[iU.mp q];exact⟨fV.mpr hp.1,fV.mpr hp.2⟩
theorem MH{x:X}{n:J}{s:aC}{l:J}: (x.mO op n c s l).aA=x.aA:=X.EJ.2
theorem ei'{x:X}(h:gL x)(hp:n<=2/\r<=2):gL (x.DD op i c n r bB):=by unfold X.DD;have h1:gL (x.eG 4 n r bB):=MW h hp;refine gL.eq (x:=((x.eG 4 n r bB).cY.jY x.aA.length {x.GH n r bB with eE:=Z (x.eG 4 n r bB).aH.length})) ?_ MH;exact Qo h1 ⟨fV.mpr hp.1,fV.mpr hp.2⟩
theorem eg'{x:X}{l n:J}(h:gL x):gL (x.gZ k f aD l op n c)/\(x.gZ k f aD l op n c).aA.length=x.aA.length:=by
 unfold X.gZ;dsimp only;split;exact⟨h.eW.eq MH,(aW pZ MH).trans X.sI.3⟩
 ·have e:((((x.cC k).cY.mO op n c aE (x.cC k).aH.length).iF f.bP aD).cH 259 l (.i 0) 0).aA=(x.cC k).aA:=X.DQ.trans MH
  exact⟨h.eW.eq e,(aW pZ e).trans X.sI.3⟩
theorem SS(h:(hZ m).isSome=u):(X.io m).1<=2/\(X.io m).2<=2:=by obtain⟨⟨q,r⟩,e⟩:=rV.mp h;rw[B4 e];exact DN e
section
variable{x:X}
theorem YF(h:gL x)(hf:f.params<=2/\f.gS<=2):gL (x.jY k f):=Qo h hf
theorem hq'(h:gL x)(h1:1<=x.aA.length):x.bF.params<=2/\x.bF.gS<=2:=by obtain⟨f,hf⟩:=tL (l:=x.aA) h1;unfold X.bF;rw[hf];exact h f (PD hf)
theorem dU'(h:gL x)(h1:1<=x.aA.length):Ph x (x.EM x.bF):=by
 have hf:=hq' h h1;unfold X.EM X.Ac;generalize x.bF=f at *;have e1:(x.rB f).params<=2/\(x.rB f).gS<=2:=by unfold X.rB;split<;>exact hf
 have e2:gL (x.zH (x.aA.length-1) f (f.gE.getD 0))/\(x.zH (x.aA.length-1) f (f.gE.getD 0)).aA.length=x.aA.length/\(x.zH (x.aA.length-1) f (f.gE.getD 0)).aP.length+5<=rd x+lv x+5:=by
  unfold X.zH;cases hl:x.bH with
  | true=>
   rw[aZ rfl,Nd hl];refine⟨YF (h.eq X.sR) hf,?_,?_⟩
   ·show ((x.dB x.R.length).aA.set _ _).length=_
    rw[mI,X.sR]
   ·have:rd (((x.dB x.R.length).jY (x.aA.length-1) {f with used:=u}).cH 259 (f.gE.getD 0) (.i 0) 0)=rd (x.dB x.R.length)+1:=qQ
    have h2:rd (x.dB x.R.length)<=rd x:=IT;unfold rd at this h2 ⊢;exact dP (aL (bU _ _) (aL (dH this) (aL (gP h2) (eR (by decide:1<=5) _)))) 5
  | false=>
   rw[aR (by decide)];exact⟨h,rfl,dP (aL (bU _ _) (bU _ _)) 5⟩
 obtain⟨e3,e4,e5⟩:=e2;generalize x.zH (x.aA.length-1) f (f.gE.getD 0)=w at *;refine⟨YF (x:=w.dS _) e3 e1,?_⟩;have lC:fe (((w.dS (f.eE.getD 0).toNat).jY (x.aA.length-1) {x.rB f with eE:=aB}).toLive (X.eB (f.bP+f.params).toNat))=fe x:=Qm (by
  show (w.aA.set _ _).length=_;rw[mI,e4])
 have Hw:rd (((w.dS (f.eE.getD 0).toNat).jY (x.aA.length-1) {x.rB f with eE:=aB}).toLive (X.eB (f.bP+f.params).toNat))=w.aP.length:=by
  show w.aP.length+mP 0 (X.eB _)=_;rw[QW];rfl
 rw[lC,Hw];have:=KT (x:=((w.dS (f.eE.getD 0).toNat).jY (x.aA.length-1) {x.rB f with eE:=aB}).toLive (X.eB (f.bP+f.params).toNat));exact aL (dP (aL (eR this _) e5) _) (dH (hS ..))
theorem X4{o:aG J}: (x.Ae o).aP=x.aP/\(x.Ae o).aA=x.aA:=by
 cases o with
 | none=>exact⟨rfl,rfl⟩
 | some l=>exact⟨rfl,rfl⟩
theorem X5{aN:aC}: (x.vQ aN k).aP=x.aP/\(x.vQ aN k).aA=x.aA:=by
 cases aN with
 | false=>exact⟨rfl,rfl⟩
 | true=>exact⟨rfl,rfl⟩
theorem dX'(h:gL x)(h1:1<=x.aA.length):Ph x (x.Af x.bF):=by
 unfold X.Af X.Cu;generalize x.bF=f at *;have e2:x.iA.uK.aP.length<=rd x/\x.iA.uK.aA=x.aA.dropLast:=by
  unfold X.uK;cases hl:x.iA.bH with
  | true=>
   rw[aZ rfl];refine⟨aL (bU _ _) (IT (x:=x.iA) (n:=x.iA.R.length)),X.sR⟩
  | false=>
   rw[aR (by decide)];exact⟨bU _ _,rfl⟩
 obtain⟨e3,e4⟩:=e2;have e5:(((x.iA.uK).Ae f.eE).vQ f.used (f.gE.getD 0).toNat).aP.length<=rd x:=by rw[X5.1,X4.1];exact e3
 have e6:(((x.iA.uK).Ae f.eE).vQ f.used (f.gE.getD 0).toNat).aA=x.aA.dropLast:=by rw[X5.2,X4.2];exact e4
 generalize ((x.iA.uK).Ae f.eE).vQ f.used (f.gE.getD 0).toNat=w at *;have e7:rd (w.rC (f.bP+f.gS).toNat)=w.aP.length:=by
  show w.aP.length+mP 0 (X.eB _)=_;rw[QW];rfl
 have fw:gL (w.rC (f.bP+f.gS).toNat):=λg hg=>h g ((O8 _).mem (e6▸hg));have ff:(w.rC (f.bP+f.gS).toNat).aA=x.aA.dropLast:=e6;generalize w.rC (f.bP+f.gS).toNat=z at *;have f1:fe x=1:=aR λq=>by rw[q]at h1;exact absurd h1 (by decide)
 unfold X.vP;by_cases c:(z.aA.isEmpty&&z.bH)=u
 ·rw[aZ c]
  refine⟨fw,?_⟩;have hz:z.aA=[]:=vF.mp (AM.mp c).1;have hf:fe (z.cH 267 4 (.i 2) 0)=0:=aZ hz;rw[qQ,hf,e7,f1];show w.aP.length+1+lv _<=_;exact eN (gP (aL e5 (bU _ _))) KT
 ·rw[aR c]
  refine⟨fw,?_⟩;rw[e7];exact aL (eN (eN e5 KT) YD) (by rw[f1];exact dP (bU (rd x) (lv x)) 6)
end
section
variable{x:X}{i:aI}
theorem rP(h:x.tT i=aE)(h5:i.code≠5)(EP:i.code≠11):x.bH=u:=by
 cases hl:x.bH with
 | true=>rfl
 | false=>
  unfold X.tT at h;rw[hl,jB.mpr h5,jB.mpr EP]at h;exact absurd (wa.mp h).2 (by decide)
theorem Xj(h:uC x d):(x.kE d).aD.toNat<=2:=by have cQ:cO x d<x.aA.length:=n1 h.lt;have he:=cS cQ;obtain⟨_,_,_,h2⟩:=h.fK _ he;unfold X.kE;rw[he];exact E4.mpr h2
theorem eE'{y:X}(h:y.aA=x.aA):y.kE d=x.kE d:=by unfold X.kE cO;rw[h]
theorem mX': (x.kI e).aA=x.aA:=by
 cases e with
 | pl s=>exact X.Jn.trans X.sR
 | num n=>
  show (X.Gi _ _ _).aA=_;unfold X.Gi;split
  ·unfold X.uY
   split;exact X.kc;rfl
  ·rfl
theorem li:∀{n:O},(x.AC n).aA=x.aA
 | 0=>rfl
 | n+1=>li (n:=n)
theorem dj'{f:J}{p:O}: (x.call f p r).aA=x.aA:=by unfold X.call;rw[li];exact X.Jn.trans X.sR
theorem jB': (x.eY op e).aA=x.aA:=X.xZ.2
theorem pJ'{f:aQ}: (x.dX op e f).aA=x.aA:=by unfold X.dX;split;rfl;exact X.xZ.2
theorem pF'{t:TS}: (t.step d).x.aA.length=t.x.aA.length:=(TS.K4 (a:=⟨0,0,0,0,0,0,0⟩)).1.1
theorem ua:∀{ds:Y O} {t:TS},(t.gJ ds).x.aA.length=t.x.aA.length
 | [],t=>rfl
 | d::r,t=>(ua (ds:=r) (t:=t.step d)).trans pF'
theorem rf:∀{ps:Y (J×J)} {x:X},(mU x ps).aA.length=x.aA.length
 | [],x=>rfl
 | p::r,x=>(rf (ps:=r) (x:=qR x p)).trans (UY (x:=x) (p:=p) ⟨0,0,0,0,0,0,0⟩).1.1
theorem oY': (x.AY e ds).aA.length=x.aA.length:=rf.trans (ua.trans (aW pZ (X.xZ (e:=e)).2))
theorem Xn(f:gL x)(hs:x.tT i=aE)(c:x.Pl i)(bB:O):Ph x (x.Ab i bB):=by
 cases i with
 | dG=>exact dU' f c.1
 | aS=>exact dX' f c.1
 | const n=>exact .plain (rP hs (bM rfl) (bM rfl)) f rfl (aL Ks (eR (by decide) _))
 | get n=>exact .plain (rP hs (bM rfl) (bM rfl)) f rfl (aL Ks (eR (by decide) _))
 | set n=>exact .plain (rP hs (bM rfl) (bM rfl)) f (X.A2 (x:=x.pop)).2 (aL ko (eN AD (by decide)))
 | mF n=>exact .plain (rP hs (bM rfl) (bM rfl)) f (X.A2 (x:=x.pop)).2 (aL Ks (gP (aL ko (eN (d:=4) AD (by decide)))))
 | drop=>exact .plain (rP hs (bM rfl) (bM rfl)) f rfl (aL AD (bU _ _))
 | kI=>exact .plain (rP hs (bM rfl) (bM rfl)) f mX' (aL kw' (eR (by decide) _))
 | br d=>exact .jA (rP hs (bM rfl) (bM rfl)) rfl (f.eW.eq X.DQ) ((aW pZ X.DQ).trans X.sI.3) (aL ks' (gP (eR (aL (Xj c) (by decide:2<=9)) _)))
 | gZ d=>
  have hp:=Xj c.2.1;have hc:(x.pop.dC x.cD).1.aA=x.aA:=X.Fj.2;have hb:=eg' (f.eq hc) (k:=cO (x.pop.dC x.cD).1 d) (aD:=((x.pop.dC x.cD).1.kE d).aD.toNat) (f:=(x.pop.dC x.cD).1.kE d) (l:=((x.pop.dC x.cD).1.kE d).cT.getD 0) (op:=(x.pop.dC x.cD).2.1) (n:=(x.pop.dC x.cD).2.2.1.n) (c:=(x.pop.dC x.cD).2.2.2);have hm:((x.pop.dC x.cD).1.kE d).aD.toNat<=2:=by rw[eE' (x:=x.pop) hc];exact hp
  exact .more (rP hs (bM rfl) (bM rfl)) hb.1 (aL kn' (dP (eN (aL kl AD) hm) 2))
 | hO ds=>
  obtain⟨c1,c2,c3⟩:=c;exact .jA (rP hs (bM rfl) (bM rfl)) rfl (sd (x:=x.pop) f c3).1 (oY' (x:=x.pop)) (aL (sd (x:=x.pop) f c3).2 (dP (ku' c1) 10))
 | ret=>exact .jA (rP hs (bM rfl) (bM rfl)) rfl (f.eq X.DQ) (aW pZ X.DQ) (aL kv' (eR (by decide) _))
 | qS=>exact .jA (rP hs (bM rfl) (bM rfl)) rfl f rfl (aL (dH qQ) (eR (by decide) _))
 | pA=>exact .plain (rP hs (bM rfl) (bM rfl)) f rfl (bU _ _)
 | dX op=>
  have hc:op≠5/\op≠11:=fY (rY (p:=λop=>decide (op≠5/\op≠11)) (by decide) c.2);exact .plain (rP hs hc.1 hc.2) f pJ' (aL kx' (eN (aL AD AD) (by decide)))
 | jQ=>exact .plain (rP hs (bM rfl) (bM rfl)) f jB' (aL kt' (eN AD (by decide)))
 | call=>exact .plain (rP hs (bM rfl) (bM rfl)) f dj' (aL ko' (eR (by decide) _))
 | block m=>exact .more (rP hs (bM rfl) (bM rfl)) (MW f (SS c)) (aL T4 (bU _ _))
 | loop m=>exact .more (rP hs (bM rfl) (bM rfl)) (MW f (SS c)) (aL T4 (bU _ _))
 | iff m=>
  have hc:(x.pop.dC x.cD).1.aA=x.aA:=X.Fj.2;have h1:rd (x.pop.dC x.cD).1<=rd x:=aL kl AD;exact .more (rP hs (bM rfl) (bM rfl)) (ei' (f.eq hc) (SS c.2.1)) (aL kr' (by lia))
def IP(x:X):O:=rd x+lv x+fe x
theorem pb'(f:gL x)(c:x.D3 i)(bB:O):gL (x.take i bB)/\IP (x.take i bB)<=IP x+5:=by
 unfold X.take;cases hs:x.tT i with
 | true=>exact⟨f,bU _ _⟩
 | false=>exact⟨(Xn f hs (c.nH hs) bB).few,(Xn f hs (c.nH hs) bB).le⟩
end
theorem U7{P Q:X->Prop}:∀{code:Y aI} {x:X},X.wp P code x->(∀y,P y->Q y)->X.wp Q code x
 | [],x,h,g=>g _ h
 | i::r,x,h,g=>⟨h.1,λbB=>U7 (h.2 bB) g⟩
theorem vg{P:X->Prop}:∀{code:Y aI} {x:X},gL x->X.wp P code x->X.wp (λy=>P y/\IP y<=IP x+5*code.length) code x
 | [],x,f,h=>⟨h,cE _⟩
 | i::r,x,f,h=>by
  refine⟨h.1,λbB=>?_⟩;obtain⟨f1,l1⟩:=pb' f h.1 bB;have:=vg f1 (h.2 bB);refine U7 this λy q=>⟨q.1,aL q.2 ?_⟩;exact TF l1
theorem jE': gL (X.gR.eG 2 0 2 bB)/\IP (X.gR.eG 2 0 2 bB)=6:=
 ⟨MW (λf hf=>absurd hf nA) (by decide),rfl⟩
theorem kL'{y:X}(h:IP y<=n):y.aP.length<=n:=aL (aL (bU _ _) (aL (bU _ _) (bU _ _))) h
theorem Sl{r:dF}{p:J->Prop}(h1:vZ r.op=aE)(h2:r.op≠262):∀l∈r.B7,p l:=λl hl=>by unfold dF.B7 at hl;rw[aR (by rw[h1];decide),aR h2]at hl;exact absurd hl nA
theorem NU{r:dF}{p:J->Prop}(h1:vZ r.op=u)(h:p r.a):∀l∈r.B7,p l:=λl hl=>by unfold dF.B7 at hl;rw[aZ h1]at hl;rw[iU.mp hl];exact h
theorem RK.gZ'{p:J->Prop}(o:q.ok m)(b:q.DI p):∀l∈q.row.B7,p l:=by
 cases q with
 | pP l=>exact NU rfl b
 | oZ c l x=>cases c<;>exact NU rfl b
 | hO a ls=>exact b
 | br op c l x y=>rcases o.1 with rfl|rfl<;>cases c<;>exact NU rfl b
 | oT op c l x n=>rcases o.1 with rfl|rfl<;>cases c<;>exact NU rfl b
 | dX op a x y=>
  obtain⟨a1,b1⟩:=IC (rY (by decide:(jL.all λop=> !vZ op&&op != 262)=u) o.1);exact Sl a1 b1
 | pW op a x n=>
  obtain⟨a1,b1⟩:=IC (rY (by decide:(jL.all λop=> !vZ (16384+op)&&(16384+op) != 262)=u) o.1);exact Sl a1 b1
 | _=>exact Sl rfl (bM rfl)
theorem RK.oZ'(o:q.ok m)(h:q.row.op=262):q.row.b.Sb/\q.row.b.l.length<1000:=by
 cases q with
 | hO a ls=>exact⟨trivial,o.2.1⟩
 | oZ c l x=>cases c<;>exact absurd h (bM rfl)
 | br op c l x y=>rcases o.1 with rfl|rfl<;>cases c<;>exact absurd h (bM rfl)
 | oT op c l x n=>rcases o.1 with rfl|rfl<;>cases c<;>exact absurd h (bM rfl)
 | dX op a x y=>exact absurd h (IC (rY (by decide:(jL.all λop=> !vZ op&&op != 262)=u) o.1)).2
 | pW op a x n=>exact absurd h (IC (rY (by decide:(jL.all λop=> !vZ (16384+op)&&(16384+op) != 262)=u) o.1)).2
 | _=>exact absurd h (bM rfl)
theorem yU.B7{V:V2}{y:X}(f:yU V y):Ch y.aP y.aH:=λr hr=>by obtain⟨ks,lk,z⟩:=f.Ku;obtain⟨j,hj⟩:=I4 hr;have hjl:=kF hj;obtain⟨q,e,o,w,b⟩:=z.row j r _ hj (cS (z.len.symm▸hjl));rw[e];refine⟨λl hl=>?_,RK.oZ' o⟩;obtain⟨h0,h1⟩:=RK.gZ' o b l hl;exact⟨h0,h1.resolve_left id⟩
theorem uy{x:J}(h:bW dQ x):jR x=u:=by obtain⟨a,rfl⟩:=yH h.1;exact decide_eq_true (bT (eZ.mp (show (a:J)<(4294967296:O) from h.2)) (by decide))
theorem U3{x y:J}(h:bW dQ x)(k:bW dQ y):(jR x&&jR y)=u:=by rw[uy h,uy k];rfl
theorem qj'{x y:J}(h:bW dQ x)(k:bW dQ y):nn x y=u:=by unfold nn;rw[decide_eq_true h.1,decide_eq_true k.1];rfl
theorem Og{P:J->Prop}(h:op∈jL)(a:P 106)(b:P 107)(c:P 108)(d:P 115)(e:P 118)(f:P 70)(g:P 73):P op:=by simp only[jL,oE,nA,D0]at h;rcases h with rfl|rfl|rfl|rfl|rfl|rfl|rfl<;>assumption
theorem QA: bW dQ (Fc b):=by cases b<;>exact⟨by decide,by decide⟩
theorem ql'{x y:J}(h:bW dQ x)(k:bW dQ y):bW dQ (CP x y):=by
 obtain⟨a,rfl⟩:=yH h.1;obtain⟨b,rfl⟩:=yH k.1;have ha:a<2^32:=eZ.mp h.2;have hb:b<2^32:=eZ.mp k.2;have h1:=Nat.or_lt_two_pow ha hb;have h2:a &&& b<=a ||| b:=aL Nat.and_le_left Nat.left_le_or
 have e:CP (a:J) (b:J)=((a ||| b:O):J)-((a &&& b:O):J):=by
  unfold CP IK HL;rw[aZ ⟨h.1,k.1⟩,aZ ⟨h.1,k.1⟩];rfl
 rw[e];refine⟨?_,?_⟩;exact Int.sub_nonneg_of_le (fV.mpr h2);exact qV (VO _ (eQ _)) (eZ.mpr h1)
theorem nw'{x y:J}(h:bW dQ x)(k:0<=y):bW dQ (x.fdiv (2^y.toNat)):=by have hp:(0:J)<=2^y.toNat:=vE (Int.pow_pos (by decide));rw[xd _ hp];exact⟨xc h.1 hp,qV (Int.ediv_le_self _ h.1) h.2⟩
theorem Um{x y:J}(gX:op∈jL)(hx:bW dQ x)(hy:bW dQ y):bW dQ (kS op x y):=
 Og (P:=λop=>bW dQ (kS op x y)) gX (EN _) (EN _) (EN _) (ql' hx hy) (nw' hx (O6 y (by decide))) QA QA
theorem QB{P:V->Prop}(q:P (.int (Fc b))):cW b (P (.int 1)) (P (.int 0)):=by cases b<;>exact q
section
variable{x y:J}
variable{Q:PE}
theorem W3{op:wR}{b:J}{Q:V×Hp->Prop}(e:Ff op a b=Z c)(q:Q (.int c,H)):bZ (Ba op (.int a) (.int b) H) Q:=by refine .of (x:=(.int c,H)) ?_ q;show bE (Ff op a b) _=_;rw[e];rfl
theorem OP(gX:op∈jL)(hx:bW dQ x)(hy:bW dQ y)(q:∀g,Q (.int (kS op x y)) (H++g)):Wf sc (d+1) 95 [.int op,.int x,.int y] H Q:=by
 have q0:Q (.int (kS op x y)) H:=by
  have:=q [];rw[pH]at this;exact this
 revert q q0;refine Og (P:=λop=>(∀g,Q (.int (kS op x y)) (H++g))->Q (.int (kS op x y)) H->Wf sc (d+1) 95 [.int op,.int x,.int y] H Q) gX (λq q0=>?_) (λq q0=>?_) (λq q0=>?_) (λq q0=>?_) (λq q0=>?_) (λq q0=>?_) (λq q0=>?_);exact cF rfl rfl (Ka (U3 hx hy) (DC eA rfl (q [_])));exact cF rfl rfl (Ka (U3 hx hy) (DC eA rfl (q [_])));exact cF rfl rfl (Ka (U3 hx hy) (DC eA rfl (q [_])));exact cF rfl rfl (W3 (pC (qj' hx hy)) q0);exact cF rfl rfl (W3 (pC (decide_eq_true (O6 y (by decide)))) q0);exact cF rfl rfl (QB (P:=λv=>Q v H) q0);exact cF rfl rfl (QB (P:=λv=>Q v H) q0)
theorem mw(q:Q (.int (uL x)) H):Wf sc (d+1) 95 [.int 69,.int x,.int y] H Q:=cF rfl rfl (QB (P:=λv=>Q v H) q)
noncomputable def mV(p:J×J):V:=.aM [.int p.1,.int p.2]
theorem mr{h:O}(e:H[h]?=Z (.list (t.map mV)))(hz:t.length<100000)(q:Q (.ref H.length) (H.set h (.list ((t++[(x,y)]).map mV))++[.list [.int y,.int ((x+1).fmod dQ)]])):Wf sc (d+1) 96 [.ref h,.int x,.int y] H Q:=by
 refine cF rfl rfl (nO e rfl (nM e (oS (by rw[cJ];exact hz) ?_)));rw[kM]at q;have q:Q (.ref (H.set h (.list (t.map mV++[mV (x,y)]))).length) (H.set h (.list (t.map mV++[mV (x,y)]))++[.list [.int y,.int ((x+1).fmod dQ)]]):=by rw[mI];exact q
 exact q
end
noncomputable def jX(n:O)(s:Sv):Y V:=(fX n).map λk:O=>V.int (s k)
section
variable{s:Sv}
theorem CJ:(jX n s).length=n:=by unfold jX;rw[cJ,pI]
theorem AI(h:bW n a):a.toNat<n/\((a.toNat:O):J)=a:=⟨(yK h.1).mpr h.2,pG h.1⟩
theorem qf(h:bW n a):kQ a (jX n s).length=Z a.toNat:=by have:=tP (AI h).1;rw[(AI h).2]at this;rw[CJ];exact this
theorem nD'(h:bW n a):(jX n s)[a.toNat]?=Z (.int (s a)):=by unfold jX;rw[fJ,rT (AI h).1];show Z (V.int (s (a.toNat:O)))=_;rw[(AI h).2]
theorem UR(h:bW n a):(jX n s).set a.toNat (.int v)=jX n (up s a v):=by
 refine yM λi=>?_;unfold jX;by_cases e:a.toNat=i
 ·rw[<-e,jZ (by rw[cJ,pI];exact (AI h).1),fJ,rT (AI h).1]
  show _=Z (V.int (up s a v (a.toNat:O)));rw[(AI h).2,Dh]
 ·rw[kL e,fJ,fJ]
  by_cases hi:i<n
  ·rw[rT hi]
   show Z (V.int (s i))=Z (V.int (up s a v i));rw[AJ λq=>e (by rw[<-q];exact Gv i)]
  ·rw[lF (by rw[pI];exact kU.mp hi)];rfl
end
def hR(bG:Y dF)(m x0 x1:J)(t:Tl)(sl:Y V)(r:Hp):Hp:=IV 1 m:: .list (bG.map dF.v):: .list [.int x0,.int x1]:: .list (t.map mV):: .list [.int x0,.int x1]:: .list [.int 0,.int 0]:: .list sl::r
noncomputable def rr(o3:aG V)(j:J)(o6 o7 o8 o9 gY:aG V):cA:=[Z (.ref 0),Z (.ref 2),Z (.ref 3),o3,Z (.ref 6),Z (.int j),o6,o7,o8,o9,gY]
inductive nS(bG:Y dF)(m x0 x1:J)(n:O)(s:Sv)(t:Tl)(j:J)(I:cA)(H:Hp):Prop
 | mk(o3 o6 o7 o8 o9 gY:aG V)(r:Hp)(e1:I=rr o3 j o6 o7 o8 o9 gY)(e2:H=hR bG m x0 x1 t (jX n s) r):nS bG m x0 x1 n s t j I H
def OK:Y bD:=Jq HN[2]?
def RT(sc:Y J)(d:O)(bG:Y dF)(m x0 x1:J)(n:O)(s:Sv)(t:Tl)(j:O)(K:PS):Prop:=∀o3 o6 o7 o8 o9 gY r,bQ (cx sc) (Cl sc d) OK (rr o3 j o6 o7 o8 o9 gY) (hR bG m x0 x1 t (jX n s) r) K
noncomputable def xX:tG->Y V
 | none=>[.str "trap"]
 | some p=>[.int p.1,.int p.2]
noncomputable def GG:Y bD->Y bD
 | [.cP _ _ f]=>f
 | _=>[]
noncomputable def SN:Y bD->Y bD
 | [.cP _ t _]=>t
 | _=>[]
noncomputable def ai:Y bD->E
 | [.cP c _ _]=>c
 | _=>.eT .none
def wN:O->Y bD
 | 0=>OK.drop 2
 | k+1=>GG (wN k)
def uW(k:O):Y bD:=SN (wN k)
def Kt(op:J):Y bD:=cW (op==256) (uW 0) (cW (op==257) (uW 1) (cW (op==258) (uW 2) (cW (op==259) (uW 3) (cW (op==260||(op==261||false)) (uW 4) (cW (op==262) (uW 5) (cW (op==263) (uW 6) (cW (op==267) (uW 7) (cW (op==0) (uW 8) (cW (decide (op≥4096)) (uW 9) (wN 10))))))))))
section
variable{K:PS}
theorem CH{eD:Y bD}(e:wN k=[.cP (ai (wN k)) (uW k) (wN (k+1))])(hc:∀P:PE,P (.bool b) H->wE G cl (ai (wN k)) I H P)(hx:bQ G cl eD I H K->bQ G cl (wN (k+1)) I H K)(q:bQ G cl (cW b (uW k) eD) I H K):bQ G cl (wN k) I H K:=by
 rw[e];refine hc (λx h1=>bZ (tW x) λb=>cW b (bQ G cl (uW k) I h1 K) (bQ G cl (wN (k+1)) I h1 K)) ?_;cases b with
 | true=>exact q
 | false=>exact hx q
theorem kI'(hρ:CA I 6=Z (.int op)):bQ G cl (Kt op) I H K->bQ G cl (wN 0) I H K:=
 CH rfl (λP p=>.of hρ p) (CH rfl (λP p=>.of hρ p) (CH rfl (λP p=>.of hρ p) (CH rfl (λP p=>.of hρ p) (CH rfl (λP p=>.of hρ p) (CH rfl (λP p=>.of hρ p) (CH rfl (λP p=>.of hρ p) (CH rfl (λP p=>.of hρ p) (CH rfl (λP p=>.of hρ p) (CH rfl (λP p=>.of hρ p) id)))))))))
end
section
variable{bG:Y dF}{s:Sv}{r:Hp}
theorem tU{Q:V->Prop}(h:bW n a)(q:Q (.int (s a))):bZ (BX (jX n s) a) Q:=uS (qf h) (nD' h) q
theorem Gl{Q:Hp->Prop}(h:bW n a)(q:Q (hR bG m x0 x1 t (jX n (up s a v)) r)):bZ (Ib (.ref 6) a (.int v) (hR bG m x0 x1 t (jX n s) r)) Q:=
 Ic (xs:=jX n s) rfl (qf h) (by rw[UR h];exact q)
end
section
variable{P:PE}
variable{K:PS}{c:E}{s f:Y bD}
theorem vY(hc:∀P:PE,P (.bool aE) H->wE G cl c I H P)(h:bQ G cl f I H K):bQ G cl [.cP c s f] I H K:=
 hc (λx h1=>bZ (tW x) λb=>cW b (bQ G cl s I h1 K) (bQ G cl f I h1 K)) h
theorem NL(hc:∀P:PE,P (.bool u) H->wE G cl c I H P)(h:bQ G cl s I H K):bQ G cl [.cP c s f] I H K:=
 hc (λx h1=>bZ (tW x) λb=>cW b (bQ G cl s I h1 K) (bQ G cl f I h1 K)) h
theorem uI(e:b=b')(p:P (.bool b') H):P (.bool b) H:=e▸p
theorem MK{a r:aC}(e:(a&&b)=r)(p:P (.bool r) H):cW a (P (.bool b) H) (P (.bool aE) H):=by
 cases a with
 | true=>exact uI e p
 | false=>exact uI e p
end
theorem gt'{A B:Prop}(h1:c≠0->A)(h2:c=0->B):cW (!(c==0)) A B:=by by_cases e:c=0;exact mR (by rw[e];rfl) (h2 e);exact oY (aW not (jB.mpr e)) (h1 e)
theorem SO{A B:Prop}(e:b'=b)(h:cW (decide (c≠0)==b) A B):cW ((!(c==0))==b') A B:=by
 have:(!(c==0))=decide (c≠0):=by
  by_cases e:c=0;rw[e];rfl;rw[jB.mpr e,decide_eq_true e];rfl
 rw[this,e];exact h
theorem Ug(h0:0<=a)(h1:0<n):(if (n:J)-1<a then (n:J)-1 else a)=((if a<(n:J)-1 then a.toNat else n-1:O):J)/\(if a<(n:J)-1 then a.toNat else n-1)<n:=by
 obtain⟨k,rfl⟩:=yH h0;obtain⟨m,rfl⟩:∃m,n=m+1:=⟨n-1,(jH h1).symm⟩;rw[show ((m+1:O):J)-1=m from Dp (m:J) 1];by_cases e:(k:J)<m;rw[aZ e,aR (oD.mpr (vE e))];exact⟨rfl,yP (eZ.mp e)⟩
 ·rw[aR e]
  refine⟨?_,iB m⟩;by_cases e2:(m:J)<k;rw[aZ e2];rfl;rw[aR e2];exact xf (oD.mp e2) (oD.mp e)
theorem jX'(h0:0<=a)(h1:ls≠[]):kQ (if ((ls.map V.int).length:J)-1<a then ((ls.map V.int).length:J)-1 else a) (ls.map V.int).length=Z (if a<(ls.length:J)-1 then a.toNat else ls.length-1):=by have hp:=Ug h0 (yg.mpr h1);rw[cJ,hp.1];exact tP hp.2
theorem pf'(h1:ls≠[]):(ls.map V.int)[if a<(ls.length:J)-1 then a.toNat else ls.length-1]?=Z (.int (RK.tg a ls)):=by have hl:=RK.tc (a:=a) h1;unfold RK.tg;rw[fJ,sW,cS hl];rfl
theorem nJ'{m:O}{a b:O}{j:J}{Q:Hp->Prop}(e1:H[l]?=Z (.list xs))(e2:H[m]?=Z (.list ys))(J9:l≠m)(ei:i=a)(ej:j=b)(zK:a<=b)(hb:b<=xs.length)(hz:xs.length+ys.length<100000)(q:Q (H.set l (.list (xs.take a++ys++xs.drop b)))):bZ (UH (.ref l) (.int i) (.int j) (.ref m) H) Q:=by refine .of (x:=H.set l (.list (xs.take a++ys++xs.drop b))) ?_ q;show bE (lK H l) _=_;rw[show lK H l=Z xs from pB e1];show bE (lK H m) _=_;rw[show lK H m=Z ys from pB e2,ei,ej];show eU (decide (l≠m)&&(decide (0<=(a:J))&&(decide ((a:J)<=b)&&(decide ((b:J)<=xs.length)&&decide (xs.length+ys.length<=aF))))) _=_;rw[decide_eq_true J9,decide_eq_true (eQ a),decide_eq_true (fV.mpr zK),decide_eq_true (fV.mpr hb),decide_eq_true (aL (lO hz) (by decide))];rfl
theorem nF'{s:Sv}{b aN:J}(h:bW n b)(h1:bW n (b+1)):(jX n s).take b.toNat++[.int aN,.int v]++(jX n s).drop (b.toNat+2)=jX n (up (up s b aN) (b+1) v):=by
 have hn:=(AI h).1;have hb:(b+1).toNat=b.toNat+1:=xp h.1 (by decide);have hn1:b.toNat+1<n:=hb▸(AI h1).1;rw[<-UR h1,<-UR h,hb];have hl:(jX n s).length=n:=CJ;generalize jX n s=l at *;have e:l=l.take b.toNat++(l[b.toNat]'(by rw[hl];exact hn)::l[b.toNat+1]'(by rw[hl];exact hn1)::l.drop (b.toNat+2)):=by
  rw[VZ,VZ,Vf]
 generalize l[b.toNat]'_=p at e;generalize l[b.toNat+1]'_=q at e;have ht:(l.take b.toNat).length=b.toNat:=PB (by rw[hl];exact lO hn);generalize l.take b.toNat=x at *;generalize l.drop (b.toNat+2)=y at *;rw[e,<-ht,E9 _ _ (cE _),qB];show _=(x ++ .int aN::q::y).set (x.length+1) _;rw[E9 _ _ (bU _ 1),wQ,fB];rfl
theorem nG'{G:Cx}{a b:O}{j:J}(e:H[l]?=Z (.list xs))(ei:i=a)(ej:j=b)(ha:a<=xs.length)(hb:b<=xs.length)(q:Q (.ref H.length,H++[.list ((xs.take b).drop a)])):bZ (Ig (.ref l) (.int i) (.int j) H) Q:=by refine .of (x:=(.ref H.length,H++[.list ((xs.take b).drop a)])) ?_ q;show bE (bE H[l]? qN) _=_;rw[e,ei,ej];show bE (eU (decide ((0:J)<=a)&&decide ((a:J)<=xs.length)) (Z (a:J).toNat)) (λa'=>bE (eU (decide ((0:J)<=b)&&decide ((b:J)<=xs.length)) (Z (b:J).toNat)) λb'=>Z (Ee H ((xs.take b').drop a')))=_;rw[decide_eq_true (eQ a),decide_eq_true (fV.mpr ha),decide_eq_true (eQ b),decide_eq_true (fV.mpr hb)];rfl
theorem nE'{s:Sv}(h:6<=n):((jX n s).take 6).drop 4=[.int (s 4),.int (s 5)]:=by
 have:jX n s=jX 6 s++(jX n s).drop 6:=by
  refine yM λi=>?_;by_cases hi:i<6
  ·rw[gO (by rw[CJ];exact hi)]
   unfold jX;rw[fJ,fJ,rT hi,rT (eP hi h)]
  ·rw[oP (by rw[CJ];exact kU.mp hi),CJ,I3,JA (kU.mp hi)]
 rw[this,List.take_left' CJ];rfl
section
variable{l x y:J}{w:dF}
variable{bG:Y dF}{s:Sv}{K:PS}
theorem xY(hj:bG[j]?=Z w)(q:∀o3 gY r,bQ (cx sc) (Cl sc d) (Kt w.op) (rr o3 (j+1) (Z (.int w.op)) (Z (.int w.a)) (Z w.b.v) (Z (.int w.c)) gY) (hR bG m x0 x1 t (jX n s) r) K):RT sc d bG m x0 x1 n s t j K:=λo3 o6 o7 o8 o9 gY r=>by show bQ (cx sc) (Cl sc d) (fD OK 0::fD OK 1::wN 0) _ _ _;refine iQ (ρ':=rr o3 j (Z (.int w.op)) (Z (.int w.a)) (Z w.b.v) (Z (.int w.c)) gY) (λK k=>uS (zS (iN hj)) (pT hj) k) ?_;exact iQ (λK k=>k) (kI' rfl (q o3 gY r))
theorem tR{j':J}{o3 o6 gY:aG V}{r:Hp}(q:∀I H,nS bG m x0 x1 n s' t' j' I H->K .next I H):K .next (rr o3 j' o6 o7 o8 o9 gY) (hR bG m x0 x1 t' (jX n s') r):=q _ _ ⟨_,_,_,_,_,_,_,rfl,rfl⟩
theorem pv'(hj:bG[j]?=Z (RK.DP a x).row)(ha:bW n a)(hx:bW n x)(q:∀I H,nS bG m x0 x1 n (up s a (s x)) t (j+1) I H->K .next I H):RT sc d bG m x0 x1 n s t j K:=
 xY hj λ_ _ _=>tU hx (Gl ha (tR q))
theorem pq'(hj:bG[j]?=Z (RK.const a x).row)(ha:bW n a)(q:∀I H,nS bG m x0 x1 n (up s a x) t (j+1) I H->K .next I H):RT sc d bG m x0 x1 n s t j K:=
 xY hj λ_ _ _=>Gl ha (tR q)
theorem px'(hj:bG[j]?=Z (RK.nY a).row)(ha:bW n a)(h1:bW n (a+1))(h2:bW n (a+2))(q:∀I H,nS bG m x0 x1 n (up s a (if s (a+2)≠0 then s a else s (a+1))) t (j+1) I H->K .next I H):RT sc d bG m x0 x1 n s t j K:=by
 have q1 (e:s (a+2)≠0):=by rw[aZ e]at q;exact q
 have q2 (e:s (a+2)=0):=by rw[aR (JM e)]at q;exact q
 exact xY hj λ_ _ _=>tU h2 (gt' (λe=>tU ha (Gl ha (tR (q1 e)))) λe=>tU h1 (Gl ha (tR (q2 e))))
theorem pu'(hj:bG[j]?=Z (RK.pP l).row)(q:∀I H,nS bG m x0 x1 n s t l I H->K .next I H):RT sc d bG m x0 x1 n s t j K:=
 xY hj λ_ _ _=>tR q
theorem pt'(hj:bG[j]?=Z (RK.oZ b l x).row)(hx:bW n x)(q:cW (decide (s x≠0)==b) (∀I H,nS bG m x0 x1 n s t l I H->K .next I H) (∀I H,nS bG m x0 x1 n s t (j+1) I H->K .next I H)):RT sc d bG m x0 x1 n s t j K:=by
 cases b with
 | true=>exact xY hj λ_ _ _=>tU hx (SO rfl (RK.B2 q tR tR))
 | false=>exact xY hj λ_ _ _=>tU hx (SO rfl (RK.B2 q tR tR))
theorem py'(hj:bG[j]?=Z (RK.hO a ls).row)(ha:bW n a)(h0:0<=s a)(h1:ls≠[])(q:∀I H,nS bG m x0 x1 n s t (RK.tg (s a) ls) I H->K .next I H):RT sc d bG m x0 x1 n s t j K:=
 xY hj λ_ _ _=>tU ha (uS (jX' h0 h1) (pf' h1) (tR q))
theorem pp'{b:J}(hj:bG[j]?=Z (RK.call b).row)(hb:bW n b)(h1:bW n (b+1))(hn:n<1000)(hz:t.length<100000)(q:∀I H,nS bG m x0 x1 n (up (up s b (s (b+1))) (b+1) ((s b+1).fmod dQ)) (t++[(s b,s (b+1))]) (j+1) I H->K .next I H):RT sc (d+1) bG m x0 x1 n s t j K:=by
 refine xY hj λo3 gY r=>tU hb (tU h1 (mr (h:=3) (t:=t) rfl hz ?_));have qI:b.toNat+2<=n:=by have:=(AI h1).1;rw[xp hb.1 (by decide)]at this;exact this
 refine nJ' (l:=6) (xs:=jX n s) (ys:=[.int (s (b+1)),.int ((s b+1).fmod dQ)]) (a:=b.toNat) (b:=b.toNat+2) rfl eA ?_ (AI hb).2.symm ?_ (bU _ _) (by rw[CJ];exact qI) (by rw[CJ];exact bT (sX hn 2) (by decide)) ?_;exact mK (eP (by decide) (dL 7 r.length));exact aW (· + 2) (AI hb).2.symm
 ·rw[nF' hb h1]
  exact tR (r:=r++[_]) q
theorem pw'(hj:bG[j]?=Z RK.ret.row)(hn:6<=n)(q:∀l I H,H[l]?=Z (.list (xX (Z (s 4,s 5))))->(H[3]?=Z (.list (t.map mV))/\H[2]?=Z (.list [.int x0,.int x1])/\4<=l)->K (.ret (.ref l)) I H):RT sc d bG m x0 x1 n s t j K:=
 xY hj λ_ _ r=>nG' (G:=cx sc) (a:=4) (b:=6) (xs:=jX n s) rfl rfl rfl (by rw[CJ];exact aL (by decide) hn) (by rw[CJ];exact hn) (q _ _ _ (by rw[nE' hn];exact eA) ⟨rfl,rfl,aL (by decide) (dL 7 r.length)⟩)
theorem pz'(hj:bG[j]?=Z RK.Ew.row)(q:∀l I H,H[l]?=Z (.list (xX aB))->(H[3]?=Z (.list (t.map mV))/\H[2]?=Z (.list [.int x0,.int x1])/\4<=l)->K (.ret (.ref l)) I H):RT sc d bG m x0 x1 n s t j K:=
 xY hj λ_ _ r=>q _ _ _ eA ⟨rfl,rfl,aL (by decide) (dL 7 r.length)⟩
theorem pr'(hj:bG[j]?=Z (RK.jQ a x).row)(ha:bW n a)(hx:bW n x)(q:∀I H,nS bG m x0 x1 n (up s a (uL (s x))) t (j+1) I H->K .next I H):RT sc (d+1) bG m x0 x1 n s t j K:=
 xY hj λ_ _ _=>tU hx (tU (a:=0) ⟨by decide,qV ha.1 ha.2⟩ (mw (Gl ha (tR q))))
theorem pA'(hj:bG[j]?=Z (RK.dX op a x y).row)(ho:op∈jL)(ha:bW n a)(hx:bW n x)(hy:bW n y)(wx:bW dQ (s x))(wy:bW dQ (s y))(q:∀I H,nS bG m x0 x1 n (up s a (kS op (s x) (s y))) t (j+1) I H->K .next I H):RT sc (d+1) bG m x0 x1 n s t j K:=
 xY hj λ_ _ r=>by
  rw[show Kt (RK.dX op a x y).row.op=wN 10 from Og (P:=λop=>Kt op=wN 10) ho rfl rfl rfl rfl rfl rfl rfl];exact tU hx (tU hy (OP ho wx wy λg=>Gl (r:=r++g) ha (tR q)))
def Lx(o op:J)(lo Uq b:aC):Prop:=Kt o=uW 9/\o.fmod 4096=op/\decide (o<12288)=lo/\(decide (16384<=o)&&decide (o<20480))=Uq/\(o.fdiv 4096==1||(o.fdiv 4096==5||false))=b
theorem kj{lo Uq b:aC}(hj:bG[j]?=Z w)(h1:Lx w.op op lo Uq b)(h2:w.b= .i x)(hx:bW n x)(hv:cW lo (bW n w.c/\v=s w.c) (v=w.c))(ho:op∈jL)(wx:bW dQ (s x))(wv:bW dQ v)(q:∀o3 r,bQ (cx sc) (Cl sc (d+1)) ((uW 9).drop 1) (rr o3 (j+1) (Z (.int w.op)) (Z (.int w.a)) (Z w.b.v) (Z (.int w.c)) (Z (.int (kS op (s x) v)))) (hR bG m x0 x1 t (jX n s) r) K):RT sc (d+1) bG m x0 x1 n s t j K:=xY hj λo3 gY r=>by
 obtain⟨hB,hm,hl,_⟩:=h1;rw[hB];obtain⟨o,a,b,c⟩:=w;cases (show b= .i x from h2);cases (show o.fmod 4096=op from hm);cases lo with
 | true=>
  obtain⟨hc,rfl⟩:=hv;exact tU hx (oY hl (tU hc (OP ho wx wv λg=>q _ _)))
 | false=>
  cases hv;exact tU hx (mR hl (OP ho wx wv λg=>q _ _))
theorem pB'(hj:bG[j]?=Z (RK.pW op a x y).row)(ho:op∈jL)(ha:bW n a)(hx:bW n x)(wx:bW dQ (s x))(wy:bW dQ y)(q:∀I H,nS bG m x0 x1 n (up s a (kS op (s x) y)) t (j+1) I H->K .next I H):RT sc (d+1) bG m x0 x1 n s t j K:=by have h:Lx (RK.pW op a x y).row.op op aE u aE:=Og (P:=λop=>Lx (RK.pW op a x y).row.op op aE u aE) ho ⟨rfl,rfl,rfl,rfl,rfl⟩ ⟨rfl,rfl,rfl,rfl,rfl⟩ ⟨rfl,rfl,rfl,rfl,rfl⟩ ⟨rfl,rfl,rfl,rfl,rfl⟩ ⟨rfl,rfl,rfl,rfl,rfl⟩ ⟨rfl,rfl,rfl,rfl,rfl⟩ ⟨rfl,rfl,rfl,rfl,rfl⟩;exact kj hj h rfl hx rfl ho wx wy λ_ _=>NL (λP p=>MK h.2.2.2.1 p) (Gl ha (tR q))
theorem ki{lo b:aC}(hj:bG[j]?=Z w)(h:Lx w.op op lo aE b)(h2:w.b= .i x)(hx:bW n x)(hv:cW lo (bW n w.c/\v=s w.c) (v=w.c))(ho:op=70\/op=73)(wx:bW dQ (s x))(wv:bW dQ v)(q:cW (decide (kS op (s x) v≠0)==b) (∀I H,nS bG m x0 x1 n s t w.a I H->K .next I H) (∀I H,nS bG m x0 x1 n s t (j+1) I H->K .next I H)):RT sc (d+1) bG m x0 x1 n s t j K:=
 kj hj h h2 hx hv (by rcases ho with rfl|rfl<;>decide) wx wv λ_ _=>vY (λP p=>MK h.2.2.2.1 p) (SO h.2.2.2.2 (RK.B2 q tR tR))
theorem pn'(hj:bG[j]?=Z (RK.br op b l x y).row)(ho:op=70\/op=73)(hx:bW n x)(hy:bW n y)(wx:bW dQ (s x))(wy:bW dQ (s y))(q:cW (decide (kS op (s x) (s y)≠0)==b) (∀I H,nS bG m x0 x1 n s t l I H->K .next I H) (∀I H,nS bG m x0 x1 n s t (j+1) I H->K .next I H)):RT sc (d+1) bG m x0 x1 n s t j K:=
 ki (lo:=u) hj (by rcases ho with rfl|rfl<;>cases b<;>exact⟨rfl,rfl,rfl,rfl,rfl⟩) rfl hx ⟨hy,rfl⟩ ho wx wy q
theorem po'(hj:bG[j]?=Z (RK.oT op b l x y).row)(ho:op=70\/op=73)(hx:bW n x)(wx:bW dQ (s x))(wy:bW dQ y)(q:cW (decide (kS op (s x) y≠0)==b) (∀I H,nS bG m x0 x1 n s t l I H->K .next I H) (∀I H,nS bG m x0 x1 n s t (j+1) I H->K .next I H)):RT sc (d+1) bG m x0 x1 n s t j K:=
 ki (lo:=aE) hj (by rcases ho with rfl|rfl<;>cases b<;>exact⟨rfl,rfl,rfl,rfl,rfl⟩) rfl hx rfl ho wx wy q
end
def EB(s:Sv):Prop:=∀i,bW dQ (s i)
theorem EB.up{s:Sv}(w:EB s)(h:bW dQ v):EB (up s a v):=λi=>by unfold Internal.up;split;exact h;exact w i
theorem X9{x:J}: bW dQ (uL x):=QA
section
variable{bG:Y dF}{s:Sv}{kk:O}{K:PS}{Hr:tG->Tl->Prop}{N:As}{eV:J->As}
theorem kJ'(hj:bG[j]?=Z q.row)(ok:q.ok n)(w:EB s)(hn:n<1000)(hz:t.length<100000)(h:q.wp Hr N eV s t kk)(hN:∀s' t',N s' t' kk->EB s'->t'.length<=t.length+1->∀I H,nS bG m x0 x1 n s' t' (j+1) I H->K .next I H)(hJ:∀l,eV l s t kk->∀I H,nS bG m x0 x1 n s t l I H->K .next I H)(hH:∀res t',Hr res t'->∀l I H,H[l]?=Z (.list (xX res))->(H[3]?=Z (.list (t'.map mV))/\H[2]?=Z (.list [.int x0,.int x1])/\4<=l)->K (.ret (.ref l)) I H):
  RT sc (d+1) bG m x0 x1 n s t j K:=by
 have t1:t.length<=t.length+1:=nC _;cases q with
 | DP a x=>exact pv' hj ok.1 ok.2 (hN _ _ h (w.up (w _)) t1)
 | const a x=>exact pq' hj ok.1 (hN _ _ h (w.up ok.2) t1)
 | nY a=>exact px' hj ok.1 ok.2.1 ok.2.2 (hN _ _ h (w.up (by split<;>exact w _)) t1)
 | pP l=>exact pu' hj (hJ _ h)
 | oZ b l x=>exact pt' hj ok (RK.B2 h (hJ _) λh=>hN _ _ h w t1)
 | hO a ls=>exact py' hj ok.1 (w _).1 ok.2.2 (hJ _ h)
 | call b=>exact pp' hj ok.1 ok.2 hn hz (hN _ _ h ((w.up (w _)).up (EN _)) (by rw[bA];exact cE _))
 | ret=>exact pw' hj (eZ.mp (show ((5:O):J)<n from ok.2.2)) (hH _ _ h)
 | Ew=>exact pz' hj (hH _ _ h)
 | jQ a x=>exact pr' hj ok.1 ok.2.1 (hN _ _ h (w.up X9) t1)
 | dX op a x y=>exact pA' hj ok.1 ok.2.1 ok.2.2.1.1 ok.2.2.2.1 (w _) (w _) (hN _ _ h (w.up (Um ok.1 (w _) (w _))) t1)
 | pW op a x y=>exact pB' hj ok.1 ok.2.1 ok.2.2.1.1 (w _) ok.2.2.2 (hN _ _ h (w.up (Um ok.1 (w _) ok.2.2.2)) t1)
 | br op b l x y=>exact pn' hj ok.1 ok.2.1 ok.2.2 (w _) (w _) (RK.B2 h (hJ _) λh=>hN _ _ h w t1)
 | oT op b l x y=>exact po' hj ok.1 ok.2.1 (w _) ok.2.2 (RK.B2 h (hJ _) λh=>hN _ _ h w t1)
end
noncomputable def DY(x0 x1:J):Sv:=λi=>if i=0 then x0 else if i=1 then x1 else if i=2\/i=3 then 0 else 99
theorem kO'(h0:bW dQ x0)(h1:bW dQ x1):EB (DY x0 x1):=λi=>by unfold DY;split;exact h0;split;exact h1;split;exact⟨by decide,by decide⟩;exact⟨by decide,by decide⟩
theorem kP': [V.int x0,.int x1]++[.int 0,.int 0]++kA k (.int 99)=jX (4+k) (DY x0 x1):=by
 refine yM λi=>?_;unfold jX;have l4:∀{i:O},i<4->i<4+k:=λh=>eP h (bU 4 k)
 match i with
 | 0=>rw[fJ,rT (l4 (by decide))];rfl
 | 1=>rw[fJ,rT (l4 (by decide))];rfl
 | 2=>rw[fJ,rT (l4 (by decide))];rfl
 | 3=>rw[fJ,rT (l4 (by decide))];rfl
 | i+4=>
  show (kA k (V.int 99))[i]?=_;rw[fJ];by_cases hi:i<k
  ·rw[VW,aZ hi,rT (cM (dH (nB i 4)) (yO hi 4))]
   show _=Z (V.int (DY x0 x1 ((i+4:O):J)));unfold DY;have ne:∀{c:O},c<4->¬ ((i+4:O):J)=(c:O):=λh e=>JC.mpr h (pY e▸dL 4 i);rw[aR (show ¬ ((i+4:O):J)=0 from ne (c:=0) (by decide)),aR (show ¬ ((i+4:O):J)=1 from ne (c:=1) (by decide)),aR λe=>e.elim (ne (c:=2) (by decide)) (ne (c:=3) (by decide))]
  ·rw[VW,aR hi,lF (by rw[pI];exact aL (eR (kU.mp hi) 4) (dH (nB 4 i)))];rfl
inductive RJ(bG:Y dF)(m x0 x1:J)(F:O->As)(n k:O)(I:cA)(H:Hp):Prop
 | mk(s:Sv)(t:Tl)(kk j:O)(h1:nS bG m x0 x1 n s t (j:O) I H)(h2:F j s t kk)(h3:kk<=2)(h4:mu bG.length j kk+k<=4000)(h5:EB s)(h6:t.length<=k):RJ bG m x0 x1 F n k I H
section
variable{bG:Y dF}{HJ:V2}{F:O->As}{Q:PS}
theorem kK'(g:Pp HJ bG F n)(hn:n<1000)(RD:bG.length<=1333){s:Sv}{t:Tl}{I:cA}(st:nS bG m x0 x1 n s t (0:O) I H)(hF:F 0 s t 0)(w:EB s)(hz:t.length=0)(hH:∀res t',HJ.H res t'->∀l I H,H[l]?=Z (.list (xX res))->(H[3]?=Z (.list (t'.map mV))/\H[2]?=Z (.list [.int x0,.int x1])/\4<=l)->Q (.ret (.ref l)) I H):
  wS (cx sc) (Cl sc (d+1)) (fD HN 2) I H Q:=by
 refine GP (t:=3) (n:=4000) rfl (RJ bG m x0 x1 F n) ⟨s,t,0,0,st,hF,nD _,aL iG' (aL (yQ 3 RD) (by decide)),w,dH hz⟩ (λI H h=>?_) λk I H hk h go fL=>?_
 ·cases h with
  | mk s t kk j _ f _ h4=>
   obtain⟨q,hq⟩:=g.row j s t kk f;exact absurd (eP (PJ (iH' (k:=kk) (iN hq))) h4) (tY _)
 ·obtain⟨s,t,kk,j,⟨o3,o6,o7,o8,o9,gY,r,rfl,rfl⟩,f,h3,h4,h5,h6⟩:=h
  obtain⟨q,hq,vW,hw⟩:=g.row j s t kk f;have hj:=iN hq;have BD {p k2:O} (a:mu bG.length p k2<mu bG.length j kk):mu bG.length p k2+(k+1)<=4000:=aL (dH (Lc _ _).symm) (aL (dP a k) h4);have e:RT sc (d+1) bG m x0 x1 n s t j (kJ go (zC go Q)):=kJ' hq vW h5 hn (cM h6 (bT hk (by decide))) hw
   (λs' t' f' w' l' I H st=>fL _ _ ⟨s',t',kk,j+1,st,f',h3,BD (ez hj (iB j)),w',aL l' (gP h6)⟩)
   (λl hl I H st=>by
    obtain⟨p,k2,rfl,hp,f',jU,hm⟩:=hl.B9 hj h3;exact fL _ _ ⟨s,t,k2,p,st,f',jU,BD hm,h5,nP h6⟩)
   hH
  exact e _ o6 o7 o8 o9 gY r
end
section
variable{bG:Y dF}{HJ:V2}{F:O->As}{Q:PE}
def RC(bG:Y dF)(m x0 x1:J):Hp:=[IV 1 m,.list (bG.map dF.v),.list [.int x0,.int x1],.list []]
theorem YA{Q:V×Hp->Prop}(e:H[k]?=Z (.list ys))(F2:l≠k)(hz:xs.length+ys.length<100000)(q:Q (.none,H.set l (.list (xs++ys)))):bZ (DJ l xs 2 [.ref k] H) Q:=by refine .of (x:=(.none,H.set l (.list (xs++ys)))) ?_ q;show bE (lK H k) _=_;rw[show lK H k=Z ys from pB e];show eU (decide (l≠k)&&decide (xs.length+ys.length<=aF)) _=_;rw[decide_eq_true F2,decide_eq_true (aL (lO hz) (by decide))];rfl
theorem kC'{n:J}{v:V}{Q:V×Hp->Prop}(e:H[l]?=Z (.list [v]))(h0:0<=n)(h1:n<=100000)(q:Q (.ref H.length,H++[.list (kA n.toNat v)])):bZ (Ba .Mult (.ref l) (.int n) H) Q:=by refine .of (x:=(.ref H.length,H++[.list (kA n.toNat v)])) ?_ q;show bE (lK H l) _=_;rw[show lK H l=Z [v] from pB e];show eU (decide (0<=n)&&decide (n<=aF)) _=_;rw[decide_eq_true h0,decide_eq_true (gB h1 (by decide))];rfl
theorem la'(g:Pp HJ bG F (4+m))(qL:2<=m)(M8:m<=240)(RD:bG.length<=1333)(h0:bW dQ x0)(h1:bW dQ x1)(hI:HJ.bK (DY x0 x1) [] 0)(q:∀res t' l H,HJ.H res t'->H[l]?=Z (.list (xX res))->(H[3]?=Z (.list (t'.map mV))/\H[2]?=Z (.list [.int x0,.int x1])/\4<=l)->Q (.ref l) H):Wf sc (d+2) 101 [.ref 0,.ref 2,.ref 3] (RC bG m x0 x1) Q:=by
 have hn:4+m=((4+m.toNat:O):J):=aW (4 + ·) (pG (gB (by decide) qL)).symm;rw[hn]at g;have e0:4+m-4=m:=by rw[LO];exact Dp m 4
 have ZQ:4+m.toNat<1000:=cM (eR (E4.mpr M8) 4) (by decide);have e1:(4+m-4).toNat=m.toNat:=aW xo e0;have e2:hR bG m x0 x1 [] ([V.int x0,V.int x1]++[V.int 0,V.int 0]++kA (4+m-4).toNat (V.int 99)) [bY.list [V.int 99],bY.list (kA (4+m-4).toNat (V.int 99))]=hR bG m x0 x1 [] (jX (4+m.toNat) (DY x0 x1)) [bY.list [V.int 99],bY.list (kA (4+m-4).toNat (V.int 99))]:=by
  rw[e1,kP']
 refine cF rfl rfl ?_;show bQ (cx sc) (Cl sc (d+1)) (fD HN 0::fD HN 1::HN.drop 2) _ _ _;refine iQ (ρ':=[Z (.ref 0),Z (.ref 2),Z (.ref 3),aB,Z (.ref 6),Z (.int (0:O)),aB,aB,aB,aB,aB]) (H':=hR bG m x0 x1 [] ([V.int x0,V.int x1]++[V.int 0,V.int 0]) []) (λK k=>k) ?_;refine iQ (ρ':=[Z (.ref 0),Z (.ref 2),Z (.ref 3),aB,Z (.ref 6),Z (.int (0:O)),aB,aB,aB,aB,aB]) (H':=hR bG m x0 x1 [] (jX (4+m.toNat) (DY x0 x1)) [bY.list [V.int 99],bY.list (kA (4+m-4).toNat (V.int 99))]) (λK k=>?_) ?_
 ·rw[<-e2]at k
  exact kC' (l:=7) rfl (show (0:J)<=4+m-4 by rw[e0];exact gB (by decide) qL) (show (4:J)+m-4<=100000 by rw[e0];exact gB M8 (by decide)) (YA (l:=6) (k:=8) rfl (by decide) (by
   rw[BL];show 4+(4+m-4).toNat<_;rw[e1];exact bT ZQ (by decide)) k)
 ·exact kK' (d:=d) (m:=m) (x0:=x0) (x1:=x1) (s:=DY x0 x1) (t:=[]) g ZQ RD ⟨_,_,_,_,_,_,[_,_],rfl,rfl⟩ (g.start _ _ _ hI) (kO' h0 h1) rfl λres t' hh l I H a b=>q res t' l H hh a b
end
def Sk:Y aI->O->Prop
 | [],_=>True
 | i::r,d=>if i.code=2\/i.code=3\/i.code=4 then Sk r (d+1) else if i.code=5 then 1<=d/\Sk r d else if i.code=11 then 1<=d/\Sk r (d-1) else Sk r d
theorem UP{i:aI}{r:Y aI}(h:i.code=2\/i.code=3\/i.code=4):Sk (i::r) d=Sk r (d+1):=aZ h
theorem nB'{r:Y aI}: Sk (.dG::r) d=(1<=d/\Sk r d):=rfl
theorem qe{r:Y aI}: Sk (.aS::r) d=(1<=d/\Sk r (d-1)):=rfl
theorem co'{a:Y aI}(b:iS a):∀{r:Y aI} {d:O},Sk r d->Sk (a++r) d:=by
 induction b with
 | nil=>exact λh=>h
 | dI _ _ i1 i2=>exact λh=>by rw[fB];exact i1 (i2 h)
 | plain h1 h2 h3 h4 h5=>
  intro r d h;show (if _ then _ else _);rw[aR (λq=>q.elim h1 (λq=>q.elim h2 h3)),aR h4,aR h5];exact h
 | uH hi _ ih=>
  intro r d h;rw[LS,fB,UP hi];refine ih ?_;show Sk (.aS::r) (d+1);rw[qe];exact⟨dL _ _,h⟩
 | dG _ _ i1 i2=>
  intro r d h;rw[LS,fB,UP (i:=.iff _) (.inr (.inr rfl))];refine i1 ?_;rw[LS,fB,nB'];refine⟨dL _ _,i2 ?_⟩;show Sk (.aS::r) (d+1);rw[qe];exact⟨dL _ _,h⟩
def Dk(es:Y (J×V))(f:O->aG O):Prop:=∀p:O,fR es p=(f p).map λv:O=>V.int v
theorem eq'{k:J}{v:V}: fR (yA es k v) i=if i=k then Z v else fR es i:=by
 unfold yA fR;split
 ·rename_i h
  induction es with
  | nil=>simp at h
  | cons p r ih=>
   rw[yN,VU,VU];by_cases hp:p.1=k
   ·have e1:(p.1==k)=u:=by simpa using hp
    rw[aZ e1];by_cases hi:i=k
    ·subst hi
     simp
    ·have e2:((k,v).1==i)=aE:=jB.mpr (FE hi)
     have e3:(p.1==i)=aE:=by rw[hp];exact e2
     rw[e2,e3,aR hi];dsimp only;by_cases hr:(r.any λe=>e.1==k)=u;rw[ih hr,aR hi]
     ·have:r.map (λe=>if (e.1==k)=u then (k,v) else e)=r:=by
       conv=>rhs;rw[<-List.map_id r]
       refine List.map_congr_left λe he=>?_;rw[aR (λq=>hr (E5.mpr ⟨e,he,q⟩))];rfl
      rw[this]
   ·have e1:(p.1==k)=aE:=by simpa using hp
    rw[aR (by rw[e1];decide)];have hr:(r.any λe=>e.1==k)=u:=by
     rw[VP,e1]at h;simpa using h
    by_cases hi:p.1=i
    ·have e2:(p.1==i)=u:=by simpa using hi
     rw[e2,aR λq=>hp (hi.trans q)]
    ·have e2:(p.1==i)=aE:=by simpa using hi
     rw[e2];exact ih hr
 ·rename_i h
  rw[ya];by_cases hi:i=k
  ·subst hi
   rw[aZ rfl];have:es.find? (λe=>e.1==i)=aB:=by
    rw[yb];intro p hp q;exact h (E5.mpr ⟨p,hp,q⟩)
   rw[this];simp
  ·rw[aR hi]
   have e2:(k==i)=aE:=jB.mpr (FE hi);cases es.find? (λe=>e.1==i) with
   | none=>simp [e2]
   | some p=>rfl
theorem qx{k:J}{v:V}: (yA es k v).length<=es.length+1:=by unfold yA;split<;>simp
theorem Dk.OY{f:O->aG O}(h:Dk es f){j v:O}: Dk (yA es j (.int v)) (AK f j v):=λp=>by rw[eq'];unfold AK;by_cases e:p=j;rw[aZ (aW _ e),aZ e];rfl;rw[aR (show ¬ (p:J)=(j:J) from λq=>e (pY q)),aR e];exact h p
theorem mB'{a:Y aI}{i:aI}{p:O}{s:Sc}: eI (a++[i]) p s=iG i (p+a.length) (eI a p s):=El
def hE(bd:Y aI)(v t:bY)(es:Y (J×V))(ep:aG O)(es':Y (J×V))(gW:aG O)(op:Y O):Hp:=[pL bd,v,t,.dict es ep,.dict es' gW,.list (op.map λk:O=>V.int k)]
theorem ny{i:aI}{p:O}{s:Sc}(c:i.code=5)(h:s.op.getLast? = Z j):iG i p s=⟨s.en,AK s.el j p,s.op⟩:=by unfold iG;rw[c,aR (by decide),h];rfl
theorem nt{i:aI}{p:O}{s:Sc}(c:i.code=11)(h:s.op.getLast? = Z j):iG i p s=⟨AK s.en j p,s.el,s.op.dropLast⟩:=by unfold iG;rw[c,aR (by decide),h];rfl
section
variable{Q:PE}{v t:bY}
theorem li'{i:aI}{K:PS}{ep:aG O}{s:Sc}(hi:bd[k]?=Z i)(h1:Dk es s.en)(h2:Dk es' s.el)(hz:es.length<=k/\es'.length<=k/\s.op.length<=k)(hk:k<900)(ho:i.code=5\/i.code=11->1<=s.op.length)
  (q:∀es es' ep gW,Dk es (iG i k s).en->Dk es' (iG i k s).el->es.length<=k+1/\es'.length<=k+1/\(iG i k s).op.length<=k+1->K .next [Z (.ref 0),Z (.int k),Z (.ref 3),Z (.ref 4),Z (.ref 5)] (hE bd v t es ep es' gW (iG i k s).op)):
  bQ (cx sc) cl (Jq Jf[1]?) [Z (.ref 0),Z (.int k),Z (.ref 3),Z (.ref 4),Z (.ref 5)] (hE bd v t es ep es' gW s.op) K:=by
 obtain⟨z1,z2,z3⟩:=hz;have hk:k<1000:=bT hk (by decide);have row:∀{Q:V->Prop},Q i.v->bZ (BX (bd.map aI.v) (k:J)) Q:=λq=>uS (zS (iN hi)) (pT hi) q;by_cases c:i.code=2\/i.code=3\/i.code=4
 ·rw[OT c]at q
  have q:=q es es' ep gW h1 h2 ⟨nP z1,nP z2,by show (s.op++[k]).length<=_;rw[bA];exact gP z3⟩;have e:hE bd v t es ep es' gW (s.op++[k])=(hE bd v t es ep es' gW s.op).set 5 (.list (s.op.map (λk:O=>V.int k)++[.int k])):=by
   unfold hE;rw[kM];rfl
  rw[show (Sc.mk s.en s.el (s.op++[k])).op=s.op++[k] from rfl,e]at q;refine row (Ar (oY ?_ (oS (by rw[cJ];exact bT (cM z3 hk) (by decide)) q)));rcases c with c|c|c<;>rw[c]<;>rfl
 ·have n1:(i.code==2||(i.code==3||(i.code==4||false)))=aE:=by
   rw[jB.mpr λh=>c (.inl h),jB.mpr λh=>c (.inr (.inl h)),jB.mpr λh=>c (.inr (.inr h))];rfl
  by_cases c5:i.code=5
  ·obtain⟨j,hj⟩:=tL (l:=s.op) (ho (.inl c5))
   rw[ny c5 hj]at q;have b5:(i.code==5)=u:=by rw[c5];rfl
   exact row (Ar (mR n1 (row (Ar (oY b5 (Ed (g:=λk:O=>V.int k) hj (UJ (l:=4) (es:=es') rfl (cM z2 hk) rfl rfl (q es _ ep _ h1 h2.OY ⟨nP z1,aL qx (gP z2),nP z3⟩))))))))
  ·have b5:(i.code==5)=aE:=jB.mpr c5
   by_cases c6:i.code=11
   ·obtain⟨j,hj⟩:=tL (l:=s.op) (ho (.inr c6))
    rw[nt c6 hj]at q;have b6:(i.code==11)=u:=by rw[c6];rfl
    have q:=q (yA es j (.int k)) es' (if (fR es j).isSome then ep else ep.map (· + 1)) gW h1.OY h2 ⟨aL qx (gP z1),nP z2,by rw[iR];exact aL (fW _ _) (nP z3)⟩;have e:hE bd v t (yA es j (.int k)) (if (fR es j).isSome then ep else ep.map (· + 1)) es' gW s.op.dropLast=(hE bd v t (yA es j (.int k)) (if (fR es j).isSome then ep else ep.map (· + 1)) es' gW s.op).set 5 (.list (s.op.map (λk:O=>V.int k)).dropLast):=by
     unfold hE;rw[Du];rfl
    rw[e]at q;exact row (Ar (mR n1 (row (Ar (mR b5 (row (Ar (oY b6 (pD (v:=.int j) (by rw[LW,hj];rfl) (UJ (l:=3) (es:=es) rfl (cM z1 hk) rfl rfl q))))))))))
   ·have b6:(i.code==11)=aE:=jB.mpr c6
    have e:iG i k s=s:=UD (λh=>c (.inl h)) (λh=>c (.inr (.inl h))) (λh=>c (.inr (.inr h))) c5 c6;rw[e]at q;exact row (Ar (mR n1 (row (Ar (mR b5 (row (Ar (mR b6 (q es es' ep gW h1 h2 ⟨nP z1,nP z2,nP z3⟩)))))))))
end
theorem nC'{i:aI}{r:Y aI}{p:O}{s:Sc}(h:Sk (i::r) s.op.length):(i.code=5\/i.code=11->1<=s.op.length)/\Sk r (iG i p s).op.length:=by
 by_cases c:i.code=2\/i.code=3\/i.code=4
 ·rw[UP c]at h
  refine⟨λq=>?_,?_⟩
  ·rcases c with c|c|c<;>rcases q with q|q<;>exact absurd (c.symm.trans q) (by decide)
  ·rw[OT c]
   show Sk r (s.op++[p]).length;rw[bA];exact h
 ·unfold Sk at h
  rw[aR c]at h;by_cases c5:i.code=5
  ·rw[aZ c5]at h
   obtain⟨j,hj⟩:=tL (l:=s.op) h.1;rw[ny c5 hj];exact⟨λ_=>h.1,h.2⟩
  ·rw[aR c5]at h
   by_cases c6:i.code=11
   ·rw[aZ c6]at h
    obtain⟨j,hj⟩:=tL (l:=s.op) h.1;rw[nt c6 hj];refine⟨λ_=>h.1,?_⟩;show Sk r s.op.dropLast.length;rw[iR];exact h.2
   ·rw[aR c6]at h
    rw[UD (λh=>c (.inl h)) (λh=>c (.inr (.inl h))) (λh=>c (.inr (.inr h))) c5 c6];exact⟨λq=>q.elim (λq=>absurd q c5) λq=>absurd q c6,h⟩
section
variable{Q:PE}{v t:bY}
theorem lP'(hb:Sk B 0)(hn:B.length<900)(q:∀es es' ep gW op,Dk es (eI B 0 mT).en->Dk es' (eI B 0 mT).el->Q (.aM [.ref 3,.ref 4]) (hE (B++[aI.aS]) v t es ep es' gW op)):Wf sc (d+1) 97 [.ref 0] [pL (B++[aI.aS]),v,t] Q:=by
 have hl:(((B++[aI.aS]).map aI.v).length:J)-1=(B.length:O):=by
  rw[cJ,bA];exact Dp (B.length:J) 1
 refine cF rfl rfl ?_;show bQ (cx sc) (Cl sc d) (fD Jf 0::fD Jf 1::Jf.drop 2) _ _ _;refine iQ (ρ':=[Z (.ref 0),aB,Z (.ref 3),Z (.ref 4),Z (.ref 5)]) (H':=hE (B++[aI.aS]) v t [] (Z 0) [] (Z 0) []) (λK k=>k) ?_;refine DX (by rw[hl];exact Db (bT hn (by decide))) (GP (t:=1) (n:=B.length) hl (λk I H=>∃o1 es es' ep gW,I=[Z (.ref 0),o1,Z (.ref 3),Z (.ref 4),Z (.ref 5)]/\H=hE (B++[aI.aS]) v t es ep es' gW (eI (B.take k) 0 mT).op/\Dk es (eI (B.take k) 0 mT).en/\Dk es' (eI (B.take k) 0 mT).el/\(es.length<=k/\es'.length<=k/\(eI (B.take k) 0 mT).op.length<=k)/\Sk (B.drop k) (eI (B.take k) 0 mT).op.length) ⟨aB,[],[],Z 0,Z 0,rfl,rfl,λ_=>rfl,λ_=>rfl,⟨nD _,nD _,nD _⟩,hb⟩ (λI H h=>?_) λk I H hk h go fL=>?_)
 ·obtain⟨o1,es,es',ep,gW,e1,e2,h1,h2,_,_⟩:=h
  rw[CV]at e2 h1 h2;rw[e1,e2];exact q es es' ep gW _ h1 h2
 ·obtain⟨o1,es,es',ep,gW,e1,e2,h1,h2,h3,h4⟩:=h
  rw[e1,e2];have hi:=cS hk;have ed:B.drop k=B[k]::B.drop (k+1):=(VZ hk).symm;have et:B.take (k+1)=B.take k++[B[k]]:=Im hi;rw[et]at fL;rw[mB',PB (lO hk),nQ]at fL;generalize B[k]=i at *;rw[ed]at h4;obtain⟨n1,n2⟩:=nC' (p:=k) h4;exact li' (i:=i) (rZ hi) h1 h2 h3 (bT hk hn) n1 λes es' ep gW a b c=>fL _ _ ⟨_,es,es',ep,gW,rfl,rfl,a,b,c,n2⟩
end
noncomputable def oL(f:BF):V:=.aM [.int f.code,.int f.params,.int f.gS,.int f.iH,.int f.fC,.int f.aS]
structure HB(bd:Y aI)(es es':Y (J×V))(sp fp:O)(t:Tl)(st pl:Y J)(fr:Y BF)(H:Hp):Prop where
 bd:H[0]?=Z (pL bd)
 eJ:H[2]?=Z (.list (t.map mV))
 en:jO λep=>H[3]?=Z (.dict es ep)
 el:jO λep=>H[4]?=Z (.dict es' ep)
 pl:H[8]?=Z (.list (pl.map .int))
 st:H[sp]?=Z (.list (st.map .int))
 fr:H[fp]?=Z (.list (fr.map oL))
 s8:8<sp
 f8:8<fp
 ne:sp≠fp
theorem tw{st:Y J}(h:1<=st.length):st.getLast? = Z (cR st):=by obtain⟨v,hv⟩:=tL (l:=st) h;unfold cR;rw[hv];rfl
section
variable{sp fp:O}{st:Y J}{fr:Y BF}
theorem HB.lt(h:HB bd es es' sp fp t st pl fr H):sp<H.length/\fp<H.length:=⟨Jw h.st,Jw h.fr⟩
theorem HB.BB(h:HB bd es es' sp fp t st pl fr H){xs:Y V}{CL:Y J}(e:xs=CL.map .int):HB bd es es' sp fp t CL pl fr (H.set sp (.list xs)):=by have ne:∀i,i<=8->(H.set sp (.list xs))[i]?=H[i]?:=λi hi=>kL λq=>absurd (G3 h.s8 q) (kU.mpr hi);obtain⟨ep,he⟩:=h.en;obtain⟨gW,uQ⟩:=h.el;exact⟨(ne 0 (by decide)).trans h.bd,(ne 2 (by decide)).trans h.eJ,⟨ep,(ne 3 (by decide)).trans he⟩,⟨gW,(ne 4 (by decide)).trans uQ⟩,(ne 8 (by decide)).trans h.pl,e▸jZ h.lt.1,(kL h.ne).trans h.fr,h.s8,h.f8,h.ne⟩
theorem HB.oo(h:HB bd es es' sp fp t st pl fr H){xs:Y V}{Cy:Y BF}(e:xs=Cy.map oL):HB bd es es' sp fp t st pl Cy (H.set fp (.list xs)):=by have ne:∀i,i<=8->(H.set fp (.list xs))[i]?=H[i]?:=λi hi=>kL λq=>absurd (G3 h.f8 q) (kU.mpr hi);obtain⟨ep,he⟩:=h.en;obtain⟨gW,uQ⟩:=h.el;exact⟨(ne 0 (by decide)).trans h.bd,(ne 2 (by decide)).trans h.eJ,⟨ep,(ne 3 (by decide)).trans he⟩,⟨gW,(ne 4 (by decide)).trans uQ⟩,(ne 8 (by decide)).trans h.pl,(kL h.ne.symm).trans h.st,e▸jZ h.lt.2,h.s8,h.f8,h.ne⟩
theorem HB.ow(h:HB bd es es' sp fp t st pl fr H){xs:Y V}{pl':Y J}(e:xs=pl'.map .int):HB bd es es' sp fp t st pl' fr (H.set 8 (.list xs)):=by have ne:∀i,8≠i->(H.set 8 (.list xs))[i]?=H[i]?:=λi hi=>kL hi;obtain⟨ep,he⟩:=h.en;obtain⟨gW,uQ⟩:=h.el;exact⟨(ne 0 (by decide)).trans h.bd,(ne 2 (by decide)).trans h.eJ,⟨ep,(ne 3 (by decide)).trans he⟩,⟨gW,(ne 4 (by decide)).trans uQ⟩,e▸jZ (Jw h.pl),(ne _ (mK h.s8)).trans h.st,(ne _ (mK h.f8)).trans h.fr,h.s8,h.f8,h.ne⟩
theorem HB.nh'(h:HB bd es es' sp fp t st pl fr H){t':Tl}: HB bd es es' sp fp t' st pl fr (H.set 2 (.list (t'.map mV))):=by have ne:∀i,2≠i->(H.set 2 (.list (t'.map mV)))[i]?=H[i]?:=λi hi=>kL hi;obtain⟨ep,he⟩:=h.en;obtain⟨gW,uQ⟩:=h.el;exact⟨(ne 0 (by decide)).trans h.bd,jZ (Jw h.eJ),⟨ep,(ne 3 (by decide)).trans he⟩,⟨gW,(ne 4 (by decide)).trans uQ⟩,(ne 8 (by decide)).trans h.pl,(ne _ (mK (bT (by decide) h.s8))).trans h.st,(ne _ (mK (bT (by decide) h.f8))).trans h.fr,h.s8,h.f8,h.ne⟩
theorem HB.tM(h:HB bd es es' sp fp t st pl fr H){g:Hp}: HB bd es es' sp fp t st pl fr (H++g):=by have sP:∀{i:O} {o:bY},H[i]?=Z o->(H++g)[i]?=Z o:=λe=>Bl e;obtain⟨ep,he⟩:=h.en;obtain⟨gW,uQ⟩:=h.el;exact⟨sP h.bd,sP h.eJ,⟨ep,sP he⟩,⟨gW,sP uQ⟩,sP h.pl,sP h.st,sP h.fr,h.s8,h.f8,h.ne⟩
theorem HB.pop(h:HB bd es es' sp fp t st pl fr H):HB bd es es' sp fp t st.dropLast pl fr (H.set sp (.list (st.map V.int).dropLast)):=h.BB Du.symm
theorem HB.push(h:HB bd es es' sp fp t st pl fr H){v:J}: HB bd es es' sp fp t (st++[v]) pl fr (H.set sp (.list (st.map V.int++[.int v]))):=h.BB (by rw[kM];rfl)
theorem HB.iJ'(h:HB bd es es' sp fp t st pl fr H){xs:Y V}{CL:Y J}(e:xs=CL.map .int):HB bd es es' H.length fp t CL pl fr (H++[.list xs]):=by have g:=h.tM (g:=[.list xs]);obtain⟨b,c,d,e1,f,_,k,s8,f8,_⟩:=g;exact⟨b,c,d,e1,f,e▸eA,k,bT s8 h.lt.1,f8,rU h.lt.2⟩
theorem HB.wI(h:HB bd es es' sp fp t st pl fr H){xs:Y V}{Cy:Y BF}(e:xs=Cy.map oL):HB bd es es' sp H.length t st pl Cy (H++[.list xs]):=by have g:=h.tM (g:=[.list xs]);obtain⟨b,c,d,e1,f,s,_,s8,f8,_⟩:=g;exact⟨b,c,d,e1,f,s,e▸eA,s8,bT f8 h.lt.2,mK h.lt.1⟩
theorem xD(hn:1<=st.length):(st.map V.int).getLast? = Z (.int (cR st)):=by rw[LW,tw hn];rfl
end
section
variable{sp fp:O}{st:Y J}{fr:Y BF}
theorem N8(h0:0<=i)(h1:i<(pl.length:J)):kQ i (pl.map V.int).length=Z i.toNat/\(pl.map V.int)[i.toNat]?=Z (.int (pl[i.toNat]?.getD 0)):=by have hl:i.toNat<pl.length:=(yK h0).mpr h1;have:=tP hl;rw[pG h0]at this;refine⟨by rw[cJ];exact this,?_⟩;rw[fJ,cS hl];rfl
theorem Sm(h:1<=st.length):kQ (-1) (st.map V.int).length=Z (st.length-1)/\(st.map V.int)[st.length-1]?=Z (.int (cR st)):=by rw[cJ];obtain⟨k,hk⟩:=Vi (rU h);have ht:=tw h;rw[CU]at ht;refine⟨by rw[hk];exact Tx,?_⟩;rw[fJ,ht];rfl
theorem W7(h:HB bd es es' sp fp t st pl fr H)(hn:1<=st.length){Q:V->Prop}(q:Q (.int (cR st))):bZ (Au G (.ref sp) (-1) H) Q:=
 rJ h.st (Sm hn).1 (Sm hn).2 q
theorem ni'{l:Y α}{v:α}(h:1<=l.length):l.set (l.length-1) v=l.dropLast++[v]:=by
 rcases LU l with q|⟨m,e,q⟩
 ·rw[q]at h;exact absurd h (Nat.not_succ_le_zero 0)
 ·rw[q,LR,CT,bA]
  show (m++[e]).set (m.length+1-1) v=_;rw[PG,E9 _ _ (cE _),qB];rfl
theorem Sn(h:1<=st.length):st=st.dropLast++[cR st]:=by
 rcases LU st with q|⟨m,e,q⟩
 rw[q]at h;exact absurd h (by decide);rw[q,LR,CT,rQ]
end
section
variable{Q:PE}{sp fp:O}{st:Y J}{fr:Y BF}
theorem jK'{n:J}(h:HB bd es es' sp fp t st pl fr H)(hz:st.length<90000)(q:∀H',HB bd es es' sp fp t (st++[n.fmod 4294967296]) pl fr H'->Q .none H'):Wf sc (d+2) 99 [(aI.const n).v,.ref sp,.ref 8,.ref 2] H Q:=
 cF rfl rfl (nO h.st rfl (nM h.st (oS (by rw[cJ];exact bT hz (by decide)) (q _ h.push))))
theorem jN'(h:HB bd es es' sp fp t st pl fr H)(h0:0<=i)(h1:i<(pl.length:J))(hz:st.length<90000)(q:∀H',HB bd es es' sp fp t (st++[pl[i.toNat]?.getD 0]) pl fr H'->Q .none H'):Wf sc (d+2) 99 [(aI.get i).v,.ref sp,.ref 8,.ref 2] H Q:=
 cF rfl rfl (nO h.st rfl (rJ h.pl (N8 h0 h1).1 (N8 h0 h1).2 (nM h.st (oS (by rw[cJ];exact bT hz (by decide)) (q _ h.push)))))
theorem jQ'(h:HB bd es es' sp fp t st pl fr H)(hn:1<=st.length)(h0:0<=i)(h1:i<(pl.length:J))(q:∀H',HB bd es es' sp fp t st.dropLast (pl.set i.toNat (cR st)) fr H'->Q .none H'):Wf sc (d+2) 99 [(aI.set i).v,.ref sp,.ref 8,.ref 2] H Q:=by have h':=h.ow (xs:=(pl.map V.int).set i.toNat (.int (cR st))) (pl':=pl.set i.toNat (cR st)) (by rw[I6]);exact cF rfl rfl (W7 h hn (Ic h.pl (N8 h0 h1).1 (nO h'.st rfl (nM h'.st (pD (xD hn) (q _ h'.pop))))))
theorem jR'(h:HB bd es es' sp fp t st pl fr H)(hn:1<=st.length)(h0:0<=i)(h1:i<(pl.length:J))(q:∀H',HB bd es es' sp fp t st (pl.set i.toNat (cR st)) fr H'->Q .none H'):Wf sc (d+2) 99 [(aI.mF i).v,.ref sp,.ref 8,.ref 2] H Q:=by have h':=h.ow (xs:=(pl.map V.int).set i.toNat (.int (cR st))) (pl':=pl.set i.toNat (cR st)) (by rw[I6]);exact cF rfl rfl (W7 h hn (Ic h.pl (N8 h0 h1).1 (q _ h')))
theorem jL'(h:HB bd es es' sp fp t st pl fr H)(hn:1<=st.length)(q:∀H',HB bd es es' sp fp t st.dropLast pl fr H'->Q .none H'):Wf sc (d+2) 99 [aI.drop.v,.ref sp,.ref 8,.ref 2] H Q:=
 cF rfl rfl (nO h.st rfl (nM h.st (pD (xD hn) (q _ h.pop))))
theorem jO'(h:HB bd es es' sp fp t st pl fr H)(q:∀H',HB bd es es' sp fp t st pl fr H'->Q .none H'):Wf sc (d+2) 99 [aI.pA.v,.ref sp,.ref 8,.ref 2] H Q:=
 cF rfl rfl (q _ h)
theorem jP'(h:HB bd es es' sp fp t st pl fr H)(hn:3<=st.length)(q:∀H',HB bd es es' sp fp t (st.dropLast.dropLast.dropLast++[if cR st≠0 then cR st.dropLast.dropLast else cR st.dropLast]) pl fr H'->Q .none H'):Wf sc (d+2) 99 [aI.kI.v,.ref sp,.ref 8,.ref 2] H Q:=by
 have n1:2<=st.dropLast.length:=Kb hn;have n2:1<=st.dropLast.dropLast.length:=Kb n1;have h2:=h.pop.pop;refine cF rfl rfl (nO h.st rfl (nM h.st (pD (xD (aL (by decide) hn)) (nO h.pop.st rfl (nM h.pop.st (pD (xD (aL (by decide) n1)) ?_))))));by_cases e:cR st=0
 ·rw[aR (JM e)]at q
  refine oY (by rw[e];rfl) (Ic h2.st (Sm n2).1 (q _ (h2.BB ?_)));have:=ni' (l:=st.dropLast.dropLast.map V.int) (v:=.int (cR st.dropLast)) (by rw[cJ];exact n2);rw[cJ]at this;rw[this,kM];exact aW (· ++ [V.int (cR st.dropLast)]) Du.symm
 ·rw[aZ e,<-Sn n2]at q
  exact mR (jB.mpr e) (q _ h2)
theorem jJ'(h:HB bd es es' sp fp t st pl fr H)(hn:2<=st.length)(hz:st.length<90000)(ht:t.length<100000)(q:∀H',HB bd es es' sp fp (t++[(cR st.dropLast,cR st)]) (st.dropLast.dropLast++[cR st]++[(cR st.dropLast+1).fmod dQ]) pl fr H'->Q .none H'):Wf sc (d+2) 99 [aI.call.v,.ref sp,.ref 8,.ref 2] H Q:=by
 have n1:1<=st.dropLast.length:=Kb hn;have h2:=h.pop.pop;have h3:=(h2.nh' (t':=t++[(cR st.dropLast,cR st)])).tM (g:=[.list [.int (cR st),.int ((cR st.dropLast+1).fmod dQ)]]);refine cF rfl rfl (nO h.st rfl (nM h.st (pD (xD (aL (by decide) hn)) (nO h.pop.st rfl (nM h.pop.st (pD (xD n1) (nO h2.st rfl (mr h2.eJ ht (nM h3.st (YA (ys:=[.int (cR st),.int ((cR st.dropLast+1).fmod dQ)]) ?_ ?_ ?_ (q _ (h3.BB ?_))))))))))))
 ·have:=eA (H:=((H.set sp (.list (st.map V.int).dropLast)).set sp (.list (st.dropLast.map V.int).dropLast)).set 2 (.list ((t++[(cR st.dropLast,cR st)]).map mV))) (o:=.list [.int (cR st),.int ((cR st.dropLast+1).fmod dQ)])
  rw[mI]at this;exact this
 ·exact mK h2.lt.1
 ·rw[cJ]
  exact bT (sX (cM (aL IB IB) hz) 2) (by decide)
 ·rw[kM,kM,fB];rfl
theorem jM'(h:HB bd es es' sp fp t st pl fr H)(hn:1<=st.length)(hz:st.length<90000)(q:∀H',HB bd es es' sp fp t (st.dropLast++[uL (cR st)]) pl fr H'->Q .none H'):Wf sc (d+2) 99 [aI.jQ.v,.ref sp,.ref 8,.ref 2] H Q:=
 cF rfl rfl (nO h.st rfl (nO h.st rfl (nM h.st (pD (xD hn) (mw (nM h.pop.st (oS (by rw[cJ];exact cM IB (bT hz (by decide))) (q _ h.pop.push))))))))
theorem jS'(h:HB bd es es' sp fp t st pl fr H)(ho:op∈jL)(hn:2<=st.length)(hz:st.length<90000)(wx:bW dQ (cR st.dropLast))(wy:bW dQ (cR st))(q:∀H',HB bd es es' sp fp t (st.dropLast.dropLast++[kS op (cR st.dropLast) (cR st)]) pl fr H'->Q .none H'):Wf sc (d+2) 99 [(aI.dX op).v,.ref sp,.ref 8,.ref 2] H Q:=by
 have n1:1<=st.dropLast.length:=Kb hn;have h2:=h.pop.pop;have f:∀k,(jL.all λo=> !(o==k))=u->(op==k)=aE:=λk hk=>(Ov _).mp (rY hk ho);have f2:(op==33||(op==34||false))=aE:=by rw[f 33 (by decide),f 34 (by decide)];rfl
 refine cF rfl rfl (mR (f 65 (by decide)) (mR (f 32 (by decide)) (mR f2 (mR (f 26 (by decide)) (mR (f 27 (by decide)) (mR (f 16 (by decide)) (mR (f 69 (by decide)) (oY (aW not (f 1 (by decide))) (nO h.st rfl (nM h.st (pD (xD (aL (by decide) hn)) (nO h.pop.st rfl (nM h.pop.st (pD (xD n1) (nO h2.st rfl (OP ho wx wy λg=>nM h2.tM.st (oS ?_ (q _ h2.tM.push))))))))))))))))));rw[cJ];exact cM (aL IB IB) (bT hz (by decide))
end
noncomputable def rb(sp fp:O)(o3 o9 gY lD mB fE fF fG iO fZ fH:aG V):cA:=[Z (.ref 0),Z (.ref 1),Z (.ref 2),o3,Z (.ref 3),Z (.ref 4),Z (.ref 8),Z (.ref sp),Z (.ref fp),o9,gY,lD,mB,fE,fF,fG,iO,fZ,fH]
inductive FP(bd:Y aI)(es es':Y (J×V))(g:BS)(I:cA)(H:Hp):Prop
 | mk(o3 gY lD mB fE fF fG iO fZ fH:aG V)(sp fp:O)(e:I=(rb sp fp o3 (Z (.int g.pc)) gY lD mB fE fF fG iO fZ fH))(h:HB bd es es' sp fp g.eJ g.st g.pl g.fr H):FP bd es es' g I H
def oK:Y bD:=Jq EG[2]?
structure vL(bd:Y aI)(es es':Y (J×V))(K:PS)(o:BO):Prop where
 next:∀g,o= .to g->∀I H,FP bd es es' g I H->K .next I H/\K .cont I H
 lB:∀r t,o= .lB r t->∀l I H,H[l]?=Z (.list (xX r))->(H[2]?=Z (.list (t.map mV))/\H[0]?=Z (pL bd))->K (.ret (.ref l)) I H
theorem Xp{st:Y J}(h:2<=st.length):(st.map V.int).drop (st.length-2)=xX (B8 st):=by
 rw[Sn (st:=st) (aL (by decide) h)];have h1:1<=st.dropLast.length:=Kb h;rw[Sn h1];generalize st.dropLast.dropLast=l;generalize cR st.dropLast=aN;generalize cR st=v;have hl:(l++[aN]++[v]).length-2=l.length:=by rw[bA,bA];rfl
 unfold B8 jF;rw[hl,kM,kM,fB,fB];rw[List.drop_left' (by rw[cJ]),xx];rfl
theorem SM{v:V}{Q:V->Prop}(hk:kQ i xs.length=Z k)(hv:xs[k]?=Z v)(q:Q v):bZ (Au G (.aM xs) i H) Q:=uS hk hv q
section
variable{K:PS}{sp fp:O}{st:Y J}{fr:Y BF}{el:O->aG O}{pc:O}{o3 gY lD mB fE fF fG iO fZ fH:aG V}{i:aI}
theorem bT'(hi:bd[pc]?=Z i)(h:HB bd es es' sp fp t st pl fr H)(q:bQ (cx sc) cl (oK.drop 2) (rb sp fp o3 (Z (.int (pc+1))) (Z (.int i.code)) (Z i.v) (Z (.int pc)) fE fF fG iO fZ fH) H K):bQ (cx sc) cl oK (rb sp fp o3 (Z (.int pc)) gY lD mB fE fF fG iO fZ fH) H K:=by show bQ (cx sc) cl (fD oK 0::fD oK 1::oK.drop 2) _ _ _;refine iQ (ρ':=(rb sp fp o3 (Z (.int (pc+1))) gY (Z i.v) (Z (.int pc)) fE fF fG iO fZ fH)) (H':=H) (λK k=>rJ h.bd (zS (iN hi)) (pT hi) k) ?_;exact iQ (λK k=>Ar (xs:=i.more) k) q
theorem bR'(h:HB bd es es' sp fp t st pl fr H)(hf:fr=[]->2<=st.length)(q:vL bd es es' K (lV en el ⟨pc+1,st,pl,fr,t⟩ pc .aS)):bQ (cx sc) cl (oK.drop 2) (rb sp fp o3 (Z (.int (pc+1))) (Z (.int 11)) (Z aI.aS.v) (Z (.int pc)) fE fF fG iO fZ fH) H K:=by
 have g:=h.tM (g:=[.list []]);cases fr with
 | nil=>
  have h2:=hf rfl;refine RQ g.fr eA (pR g.st (OX (b:=st.length-2) g.st ?_ ?_ ?_));rw[cJ];exact (yJ h2).symm;rw[cJ];exact fW _ _
  ·rw[Xp h2]
   exact q.lB _ _ rfl _ _ _ eA ⟨Bl g.eJ,Bl g.bd⟩
 | cons f r=>
  obtain⟨v,hv⟩:=tL (l:=(f::r).map oL) (BP _);refine RQ g.fr eA (nO g.fr rfl (nM g.fr (pD hv ?_)));exact (q.next _ rfl _ _ ⟨_,_,_,_,_,_,_,_,_,_,_,_,rfl,g.oo Du.symm⟩).1
theorem bQ'(h:HB bd es es' sp fp t st pl fr H)(hf:fr≠[])(q:vL bd es es' K (lV en el ⟨pc+1,st,pl,fr,t⟩ pc .dG)):bQ (cx sc) cl (oK.drop 2) (rb sp fp o3 (Z (.int (pc+1))) (Z (.int 5)) (Z aI.dG.v) (Z (.int pc)) fE fF fG iO fZ fH) H K:=by
 rcases LU fr with e|⟨l,f,e⟩
 ·exact absurd e hf
 ·rw[LR]at e
  have q:vL bd es es' K (.to ⟨f.aS,st,pl,fr,t⟩):=by
   have:lV en el ⟨pc+1,st,pl,fr,t⟩ pc .dG= .to ⟨f.aS,st,pl,fr,t⟩:=by
    show (match fr.getLast? with|none=>BO.mM|some (f:BF)=>BO.to (BS.mk f.aS st pl fr t))=_;rw[e,Ds]
   rw[<-this];exact q
  refine rJ h.fr (k:=l.length) (v:=oL f) ?_ ?_ (q.next _ rfl _ _ ⟨_,_,_,_,_,_,_,_,_,_,_,_,rfl,h⟩).1;rw[e,cJ,bA];exact Tx;rw[e,fJ,kZ];rfl
theorem cl'(h:HB bd es es' sp fp t st pl fr H)(q:vL bd es es' K (lV en el ⟨pc+1,st,pl,fr,t⟩ pc .qS)):bQ (cx sc) cl (oK.drop 2) (rb sp fp o3 (Z (.int (pc+1))) (Z (.int 0)) (Z aI.qS.v) (Z (.int pc)) fE fF fG iO fZ fH) H K:=
 q.lB _ _ rfl _ _ _ eA ⟨Bl h.eJ,Bl h.bd⟩
end
noncomputable def jq(c:J):aC:= !(c==11)&&(!(c==5)&&(!(c==2||(c==3||(c==4||false)))&&(!(c==0) && !(decide (12<=c)&&decide (c<=15)))))
theorem Kg(h:(!b)=u):b=aE:=(Ov b).mp h
section
variable{K:PS}{Q:PE}{body:Y aI}{sp fp:O}{st:Y J}{fr:Y BF}{el:O->aG O}{pc:O}{o3 gY lD mB fE fF fG iO fZ fH:aG V}{i:aI}
theorem BZ(hc:jq c=u)(w:∀I,I=(rb sp fp o3 (Z (.int (pc+1))) (Z (.int c)) (Z i.v) (Z (.int pc)) fE fF fG iO fZ fH)->Wf sc (d+2) 99 [i.v,.ref sp,.ref 8,.ref 2] H λ_ H'=>K .next I H'):bQ (cx sc) (Cl sc (d+2)) (oK.drop 2) (rb sp fp o3 (Z (.int (pc+1))) (Z (.int c)) (Z i.v) (Z (.int pc)) fE fF fG iO fZ fH) H K:=by obtain⟨c1,hc⟩:=AM.mp hc;obtain⟨c2,hc⟩:=AM.mp hc;obtain⟨c3,hc⟩:=AM.mp hc;obtain⟨c4,c5⟩:=AM.mp hc;exact vY (λP p=>uI (Kg c1) p) (vY (λP p=>uI (Kg c2) p) (vY (λP p=>uI (Kg c3) p) (vY (λP p=>uI (Kg c4) p) (vY (λP p=>MK (Kg c5) p) (w _ rfl)))))
theorem lR'{q:O}(hm:hZ m=Z (q,r))(k:∀g,Q (.aM [.int q,.int r]) (H++g)):Wf sc (d+2) 98 [.int m] H Q:=by
 have k0:Q (.aM [.int q,.int r]) H:=by
  have:=k [];rw[pH]at this;exact this
 have k2:∀a b,Q (.aM [.int q,.int r]) (H++[a]++[b]):=λa b=>by
  rw[fB];exact k _
 revert k k0 k2;refine TH (P:=λm q r=>(∀g,Q (.aM [.int q,.int r]) (H++g))->Q (.aM [.int q,.int r]) H->(∀a b,Q (.aM [.int q,.int r]) (H++[a]++[b]))->Wf sc (d+2) 98 [.int m] H Q) hm ?_ ?_ ?_ ?_ ?_ ?_;exact λ_ k _=>cF rfl rfl k;exact λ_ k _=>cF rfl rfl k;all_goals exact λ_ _ k=>cF rfl rfl (Kv (rJ eA rfl rfl (Kv (rJ eA rfl rfl (k _ _)))))
end
def AA:Y bD:=SN (GG (GG (oK.drop 2)))
def jW:Y bD:=SN (GG (GG (GG (GG (oK.drop 2)))))
section
variable{q:O}
variable{K:PS}{sp fp:O}{st:Y J}{fr:Y BF}{el:O->aG O}{pc:O}{o3 gY lD mB fE fF fG iO fZ fH:aG V}{i:aI}
theorem gx'{i:J}{ep:aG O}{Q:aC->Prop}(e:H[l]?=Z (.dict es ep))(q:Q (fR es i).isSome):bZ (xF G .In (.int i) (.ref l) H) Q:=by refine .of (x:=(fR es i).isSome) ?_ q;show bE (bE H[l]? QU) _=_;rw[e];rfl
theorem Wz(hρ:CA I 10=Z (.int c))(c1:(c==11)=aE)(c2:(c==5)=aE)(c3:(c==2||(c==3||(c==4||false)))=u)(q:bQ (cx sc) cl AA I H K):bQ (cx sc) cl (oK.drop 2) I H K:=
 vY (λP p=>.of hρ (uI c1 p)) (vY (λP p=>.of hρ (uI c2 p)) (NL (λP p=>.of hρ (uI c3 p)) q))
theorem L8(hρ:CA I 10=Z (.int c))(c1:(c==11)=aE)(c2:(c==5)=aE)(c3:(c==2||(c==3||(c==4||false)))=aE)(c4:(c==0)=aE)(c5:(decide (12<=c)&&decide (c<=15))=u)(q:bQ (cx sc) cl jW I H K):bQ (cx sc) cl (oK.drop 2) I H K:=
 vY (λP p=>.of hρ (uI c1 p)) (vY (λP p=>.of hρ (uI c2 p)) (vY (λP p=>.of hρ (uI c3 p)) (vY (λP p=>.of hρ (uI c4 p)) (NL (λP p=>.of hρ (MK c5 p)) q))))
theorem gy{more:Y V}{ρ0:cA}(hm:hZ m=Z (q,r))(k:∀g,K .next (rb sp fp o3 (Z (.int (pc+1))) (Z (.int c)) (Z (.aM (.int c:: .int m::more))) (Z (.int pc)) fE (Z (.int q)) (Z (.int r)) iO fZ fH) (H++g)):wS (cx sc) (Cl sc (d+2)) (fD AA 1) (rb sp fp o3 (Z (.int (pc+1))) (Z (.int c)) (Z (.aM (.int c:: .int m::more))) (Z (.int pc)) fE fF fG iO fZ fH) H K:=
 SM (k:=1) (tP (k:=1) (dL 2 _)) rfl (lR' hm k)
theorem gx{e:O}(h:HB bd es es' sp fp t st pl fr H)(he:fR es (pc:J)=Z (.int e))(hq:q<=st.length)(hz:fr.length<90000)(k:∀H',HB bd es es' sp fp t st pl (fr++[⟨c,q,r,st.length-q,pc,e⟩]) H'->K .next (rb sp fp o3 (Z (.int (pc+1))) (Z (.int c)) lD (Z (.int pc)) fE (Z (.int q)) (Z (.int r)) iO fZ fH) H'):wS (cx sc) cl (fD AA 2) (rb sp fp o3 (Z (.int (pc+1))) (Z (.int c)) lD (Z (.int pc)) fE (Z (.int q)) (Z (.int r)) iO fZ fH) H K:=by obtain⟨ep,Ak⟩:=h.en;refine nO h.fr rfl (pR h.st (DC Ak he (nM h.fr (oS (by rw[cJ];exact bT hz (by decide)) (k _ (h.oo ?_))))));rw[kM];refine aW (fr.map oL++[·]) ?_;show V.aM [.int c,.int q,.int r,.int (((st.map V.int).length:J)-q),.int pc,.int e]= .aM [.int c,.int q,.int r,.int ((st.length-q:O):J),.int pc,.int e];rw[cJ,yJ hq]
end
section
variable{e q:O}
variable{K:PS}{sp fp:O}{st:Y J}{fr:Y BF}{el:O->aG O}{pc:O}{o3 gY lD mB fE fF fG iO fZ fH:aG V}{i:aI}
theorem cd'(hc:c=2\/c=3)(hm:hZ m=Z (q,r))(h:HB bd es es' sp fp t st pl fr H)(he:fR es (pc:J)=Z (.int e))(hq:q<=st.length)(hz:fr.length<90000)(k:∀I H',FP bd es es' ⟨pc+1,st,pl,fr++[⟨c,q,r,st.length-q,pc,e⟩],t⟩ I H'->K .next I H'):bQ (cx sc) (Cl sc (d+2)) (oK.drop 2) (rb sp fp o3 (Z (.int (pc+1))) (Z (.int c)) (Z (.aM [.int c,.int m])) (Z (.int pc)) fE fF fG iO fZ fH) H K:=by
 have c0:(c==11)=aE/\(c==5)=aE/\(c==2||(c==3||(c==4||false)))=u/\(c==4)=aE:=by
  rcases hc with rfl|rfl<;>exact⟨rfl,rfl,rfl,rfl⟩
 refine Wz rfl c0.1 c0.2.1 c0.2.2.1 ?_;show bQ _ _ (fD AA 0::AA.drop 1) _ _ _;refine iQ (ρ':=(rb sp fp o3 (Z (.int (pc+1))) (Z (.int c)) (Z (.aM [.int c,.int m])) (Z (.int pc)) (Z (.int 1)) fF fG iO fZ fH)) (H':=H) (λK k=>mR c0.2.2.2 k) ?_;refine gy (ρ0:=[]) (K:=kJ (fun ρ1 h1=>bQ (cx sc) (Cl sc (d+2)) (AA.drop 2) ρ1 h1 K) K) hm λg=>?_;refine gx (K:=kJ (fun ρ1 h1=>bQ (cx sc) (Cl sc (d+2)) (AA.drop 3) ρ1 h1 K) K) (h.tM (g:=g)) he hq hz λH' h'=>?_;exact vY (λP p=>p) (k _ _ ⟨_,_,_,_,_,_,_,_,_,_,_,_,rfl,h'⟩)
theorem bV'{x:J}(h:HB bd es es' sp fp t st pl fr H)(he:fR es (pc:J)=Z (.int e))(rG:fR es' (pc:J)=(el pc).map λv:O=>V.int v)(k:∀I H,FP bd es es' ⟨if x=0 then (el pc).elim e (· + 1) else pc+1,st,pl,fr,t⟩ I H->K .next I H):bQ (cx sc) cl (AA.drop 3) (rb sp fp o3 (Z (.int (pc+1))) (Z (.int 4)) lD (Z (.int pc)) (Z (.int x)) fF fG iO fZ fH) H K:=by
 obtain⟨ep,Ak⟩:=h.en;obtain⟨gW,M1⟩:=h.el;by_cases e0:x=0
 ·rw[aZ e0]at k
  refine NL (λP p=>uI (by rw[e0];rfl) p) (gx' M1 ?_);rw[rG];cases hx:el pc with
  | none=>
   rw[hx]at k;exact DC Ak he (k _ _ ⟨_,_,_,_,_,_,_,_,_,_,_,_,rfl,h⟩)
  | some y=>
   rw[hx]at rG k;exact DC M1 rG (k _ _ ⟨_,_,_,_,_,_,_,_,_,_,_,_,rfl,h⟩)
 ·rw[aR e0]at k
  exact vY (λP p=>uI (jB.mpr e0) p) (k _ _ ⟨_,_,_,_,_,_,_,_,_,_,_,_,rfl,h⟩)
theorem bU'(hm:hZ m=Z (q,r))(h:HB bd es es' sp fp t st pl fr H)(he:fR es (pc:J)=Z (.int e))(rG:fR es' (pc:J)=(el pc).map λv:O=>V.int v)(hn:1<=st.length)(hq:q<=st.dropLast.length)(hz:fr.length<90000)(k:∀I H',FP bd es es' ⟨if cR st=0 then (el pc).elim e (· + 1) else pc+1,st.dropLast,pl,fr++[⟨4,q,r,st.dropLast.length-q,pc,e⟩],t⟩ I H'->K .next I H'):bQ (cx sc) (Cl sc (d+2)) (oK.drop 2) (rb sp fp o3 (Z (.int (pc+1))) (Z (.int 4)) (Z (.aM [.int 4,.int m])) (Z (.int pc)) fE fF fG iO fZ fH) H K:=by refine Wz rfl rfl rfl rfl ?_;show bQ _ _ (fD AA 0::AA.drop 1) _ _ _;refine iQ (ρ':=(rb sp fp o3 (Z (.int (pc+1))) (Z (.int 4)) (Z (.aM [.int 4,.int m])) (Z (.int pc)) (Z (.int (cR st))) fF fG iO fZ fH)) (H':=H.set sp (.list (st.map V.int).dropLast)) (λK k=>nO h.st rfl (nM h.st (pD (xD hn) k))) ?_;refine gy (ρ0:=[]) (K:=kJ (fun ρ1 h1=>bQ (cx sc) (Cl sc (d+2)) (AA.drop 2) ρ1 h1 K) K) hm λg=>?_;refine gx (K:=kJ (fun ρ1 h1=>bQ (cx sc) (Cl sc (d+2)) (AA.drop 3) ρ1 h1 K) K) (h.pop.tM (g:=g)) he hq hz λH' h'=>?_;exact bV' h' he rG k
end
theorem qg{G:Cx}{b:O}(e:H[l]?=Z (.list xs))(ei:i=b)(hb:b<=xs.length)(q:Q (.ref H.length,H++[.list (xs.take b)])):bZ (Ig (.ref l) .none (.int i) H) Q:=by refine .of (x:=(.ref H.length,H++[.list (xs.take b)])) ?_ q;show bE (bE H[l]? qN) _=_;rw[e,ei];show bE (eU (decide ((0:J)<=b)&&decide ((b:J)<=xs.length)) (Z (b:J).toNat)) (λb'=>Z (Ee H ((xs.take b').drop 0)))=_;rw[decide_eq_true (eQ b),decide_eq_true (fV.mpr hb)];rfl
section
variable{m:O}
variable{K:PS}{sp fp:O}{st:Y J}{fr:Y BF}{el:O->aG O}{pc:O}{o3 gY lD mB fE fF fG iO fZ fH:aG V}{i:aI}{f:BF}
theorem Xh(hd:dd<fr.length):((fr.map oL).length:J)-1-dd=((fr.length-1-dd:O):J):=by rw[cJ];exact (n3 hd).symm
theorem gQ'(h:HB bd es es' sp fp t st pl fr H)(hd:dd<fr.length)(hf:fr[fr.length-1-dd]?=Z f)(k:K .next (rb sp fp o3 o9 gY lD mB fE fF fG (Z (.int dd)) (Z (oL f)) fH) H):wS (cx sc) cl (fD jW 4) (rb sp fp o3 o9 gY lD mB fE fF fG (Z (.int dd)) fZ fH) H K:=
 pR h.fr (rJ h.fr (k:=fr.length-1-dd) (v:=oL f) (by
  rw[Xh hd];exact zS (n1 hd)) (pT hf) k)
theorem gS'(hm:(if f.code=3 then f.params else f.gS)=m)(k:K .next (rb sp fp o3 o9 gY lD mB fE fF fG (Z (.int dd)) (Z (oL f)) (Z (.int m))) H):wS (cx sc) cl (fD jW 5) (rb sp fp o3 o9 gY lD mB fE fF fG (Z (.int dd)) (Z (oL f)) fH) H K:=by
 by_cases e:f.code=3
 ·rw[aZ e]at hm
  rw[<-hm]at k;exact oY (by rw[e];rfl) k
 ·rw[aR e]at hm
  rw[<-hm]at k;exact mR (jB.mpr e) k
theorem gT'(h:HB bd es es' sp fp t st pl fr H)(hb:f.iH<=st.length)(hm:m<=st.length)(hz:st.length<90000)(k:∀UV H',HB bd es es' UV fp t (jF f.iH m st) pl fr H'->K .next (rb UV fp o3 o9 gY lD mB fE fF fG (Z (.int dd)) (Z (oL f)) (Z (.int m))) H'):wS (cx sc) cl (fD jW 6) (rb sp fp o3 o9 gY lD mB fE fF fG (Z (.int dd)) (Z (oL f)) (Z (.int m))) H K:=by
 have g:=h.tM (g:=[.list ((st.map V.int).take f.iH)]);have g2:=g.tM (g:=[.list ((st.map V.int).drop (st.length-m))]);refine qg (G:=cx sc) h.st rfl (by rw[cJ];exact hb) (pR g.st (OX (b:=st.length-m) g.st ?_ ?_ (HK (lH eA) eA ?_ (k _ _ (g2.iJ' ?_)))));rw[cJ];exact (yJ hm).symm;rw[cJ];exact fW _ _
 ·refine decide_eq_true ?_
  rw[Dt,LX,cJ];exact aL (eN (PN _ _) (fW _ _)) (aL (eN (lO hz) (lO hz)) (by decide))
 ·unfold jF
  rw[kM,Vc,yk]
theorem gR'(h:HB bd es es' sp fp t st pl fr H)(hd:dd<fr.length)(hz:fr.length<90000)(k:∀Qw H',HB bd es es' sp Qw t st pl (fr.take (fr.length-1-dd)++(if f.code=3 then [f] else [])) H'->K .next (rb sp Qw o3 o9 gY lD mB fE fF fG (Z (.int dd)) (Z (oL f)) fH) H'):wS (cx sc) cl (fD jW 7) (rb sp fp o3 o9 gY lD mB fE fF fG (Z (.int dd)) (Z (oL f)) fH) H K:=by
 have g:=h.tM (g:=[.list ((fr.map oL).take (fr.length-1-dd))]);have hl:((fr.map oL).take (fr.length-1-dd)).length<=fr.length:=by rw[Dt,cJ];exact PN _ _
 refine pR h.fr (qg (G:=cx sc) (b:=fr.length-1-dd) h.fr (Xh hd) (by rw[cJ];exact lO (n1 hd)) ?_);by_cases e:f.code=3
 ·rw[aZ e]at k
  refine oY (by rw[e];rfl) (HK (lH eA) eA ?_ (k _ _ ((g.tM (g:=[.list [oL f]])).wI ?_)))
  ·refine decide_eq_true ?_
   exact aL (gP hl) (bT hz (by decide))
  ·rw[kM,Vc];rfl
 ·rw[aR e]at k
  refine mR (jB.mpr e) (HK (lH eA) eA ?_ (k _ _ ((g.tM (g:=[.list []])).wI ?_)))
  ·refine decide_eq_true ?_
   exact aL hl (lO (bT hz (by decide)))
  ·rw[kM,Vc];rfl
theorem gP'(k:K .next (rb sp fp o3 (Z (.int ((if f.code=3 then f.fC+1 else f.aS+1:O)))) gY lD mB fE fF fG iO (Z (oL f)) fH) H):wS (cx sc) cl (fD jW 8) (rb sp fp o3 o9 gY lD mB fE fF fG iO (Z (oL f)) fH) H K:=by
 by_cases e:f.code=3
 ·rw[aZ e]at k
  exact oY (by rw[e];rfl) k
 ·rw[aR e]at k
  exact mR (jB.mpr e) k
end
theorem Tu{g:BS}(h:d=g.fr.length):g.jA d= .lB (B8 g.st) g.eJ:=aZ h
theorem jf{g:BS}{f:BF}(h:d<g.fr.length)(hf:g.fr[g.fr.length-1-d]?=Z f)(hc:f.code=3):g.jA d= .to ⟨f.fC+1,jF f.iH f.params g.st,g.pl,g.fr.take (g.fr.length-1-d)++[f],g.eJ⟩:=by unfold BS.jA;rw[aR (mK h),hf];exact aZ hc
theorem je{g:BS}{f:BF}(h:d<g.fr.length)(hf:g.fr[g.fr.length-1-d]?=Z f)(hc:f.code≠3):g.jA d= .to ⟨f.aS+1,jF f.iH f.gS g.st,g.pl,g.fr.take (g.fr.length-1-d),g.eJ⟩:=by unfold BS.jA;rw[aR (mK h),hf];exact aR hc
section
variable{K:PS}{sp fp:O}{st:Y J}{fr:Y BF}{el:O->aG O}{pc:O}{o3 gY lD mB fE fF fG iO fZ fH:aG V}{i:aI}{f:BF}
theorem L7(h:HB bd es es' sp fp t st pl fr H)(hf:AT st.length fr dd)(hz:st.length<90000)(mA:fr.length<90000)(q:vL bd es es' K (BS.jA ⟨pc,st,pl,fr,t⟩ dd)):bQ (cx sc) cl (jW.drop 3) (rb sp fp o3 o9 gY lD mB fE fF fG (Z (.int dd)) fZ fH) H K:=by
 obtain⟨f1,f2,f3⟩:=hf;show bQ _ _ (fD jW 3::jW.drop 4) _ _ _;by_cases e:dd=fr.length
 ·rw[Tu (g:=⟨pc,st,pl,fr,t⟩) e]at q
  have h2:=f2 e;have eb:((dd:J)==((fr.map oL).length:J))=u:=by rw[cJ,e];exact Ce _
  refine pR h.fr (oY eb (pR h.st (OX (b:=st.length-2) h.st ?_ ?_ ?_)));rw[cJ];exact (yJ h2).symm;rw[cJ];exact fW _ _
  ·rw[Xp h2]
   exact q.lB _ _ rfl _ _ _ eA ⟨Bl h.eJ,Bl h.bd⟩
 ·have hd:dd<fr.length:=La f1 e
  have eb:((dd:J)==((fr.map oL).length:J))=aE:=by
   rw[cJ];exact jB.mpr λq=>e (pY q)
  have Bn:=cS (l:=fr) (i:=fr.length-1-dd) (n1 hd);generalize fr[fr.length-1-dd]'_=f at Bn;have b0:=f3 f hd Bn;have b1:=aL (bU _ _) b0;have b2:=aL (dL _ _) b0;refine iQ (ρ':=(rb sp fp o3 o9 gY lD mB fE fF fG (Z (.int dd)) fZ fH)) (H':=H) (λK k=>pR h.fr (mR eb k)) ?_;show bQ _ _ (fD jW 4::fD jW 5::jW.drop 6) _ _ _;refine iQ (λK k=>gQ' h hd Bn k) (iQ (λK k=>gS' rfl k) ?_);refine gT' (K:=kJ (fun ρ1 h1=>bQ (cx sc) cl (jW.drop 7) ρ1 h1 K) K) h b1 b2 hz λUV H1 h1=>?_;refine gR' (K:=kJ (fun ρ1 h1=>bQ (cx sc) cl (jW.drop 8) ρ1 h1 K) K) h1 hd mA λQw H2 h2=>?_;show bQ _ _ (fD jW 8::[]) _ _ _;refine iQ (λK k=>gP' k) ?_;by_cases hc:f.code=3
  ·rw[jf (g:=⟨pc,st,pl,fr,t⟩) hd Bn hc]at q
   rw[aZ hc]at h2 ⊢;rw[aZ hc]at h2;exact (q.next _ rfl _ _ ⟨_,_,_,_,_,_,_,_,_,_,_,_,rfl,h2⟩).1
  ·rw[je (g:=⟨pc,st,pl,fr,t⟩) hd Bn hc]at q
   rw[aR hc]at h2 ⊢;rw[aR hc,pH]at h2;exact (q.next _ rfl _ _ ⟨_,_,_,_,_,_,_,_,_,_,_,_,rfl,h2⟩).1
end
theorem gc(h:k<ds.length):(V.int 14::rN ds)[k+1]?=Z (.int (ds.getD k 0:O)):=by show (rN ds)[k]?=_;unfold rN;rw[fJ,sW,cS h];rfl
theorem pc'(h0:0<=a)(h1:1<=ds.length):kQ (1+(if ((V.int 14::rN ds).length:J)-2<a then ((V.int 14::rN ds).length:J)-2 else a)) (V.int 14::rN ds).length=Z ((if a<(ds.length:J)-1 then a.toNat else ds.length-1)+1):=by
 have hl:(V.int 14::rN ds).length=ds.length+1:=by
  show (rN ds).length+1=_;unfold rN;rw[cJ]
 rw[hl];have hm:=Ug h0 h1;rw[show ((ds.length+1:O):J)-2=(ds.length:J)-1 from Int.add_sub_assoc (ds.length:J) 1 2,hm.1,LO];exact tP (k:=(if a<(ds.length:J)-1 then a.toNat else ds.length-1)+1) (tZ hm.2)
section
variable{K:PS}{sp fp:O}{st:Y J}{fr:Y BF}{el:O->aG O}{pc:O}{o3 gY lD mB fE fF fG iO fZ fH:aG V}{i:aI}{f:BF}
theorem bx'(h:HB bd es es' sp fp t st pl fr H)(hf:AT st.length fr dd)(hz:st.length<90000)(mA:fr.length<90000)(q:vL bd es es' K (lV en el ⟨pc+1,st,pl,fr,t⟩ pc (.br dd))):bQ (cx sc) cl (oK.drop 2) (rb sp fp o3 (Z (.int (pc+1))) (Z (.int 12)) (Z (aI.br dd).v) (Z (.int pc)) fE fF fG iO fZ fH) H K:=by refine L8 rfl rfl rfl rfl rfl rfl ?_;show bQ _ _ (fD jW 0::fD jW 1::fD jW 2::jW.drop 3) _ _ _;refine iQ (ρ':=(rb sp fp o3 (Z (.int (pc+1))) (Z (.int 12)) (Z (aI.br dd).v) (Z (.int pc)) fE fF fG (Z (.int dd)) fZ fH)) (H':=H) (λK k=>k) ?_;refine iQ (λK k=>k) (iQ (λK k=>k) ?_);exact L7 (pc:=pc+1) h hf hz mA q
theorem ch'(h:HB bd es es' sp fp t st pl fr H)(hn:2<=st.length)(hz:st.length<90000)(mA:fr.length<90000)(q:vL bd es es' K (lV en el ⟨pc+1,st,pl,fr,t⟩ pc .ret)):bQ (cx sc) cl (oK.drop 2) (rb sp fp o3 (Z (.int (pc+1))) (Z (.int 15)) (Z aI.ret.v) (Z (.int pc)) fE fF fG iO fZ fH) H K:=by refine L8 rfl rfl rfl rfl rfl rfl ?_;show bQ _ _ (fD jW 0::fD jW 1::fD jW 2::jW.drop 3) _ _ _;refine iQ (ρ':=(rb sp fp o3 (Z (.int (pc+1))) (Z (.int 15)) (Z aI.ret.v) (Z (.int pc)) fE fF fG (Z (.int fr.length)) fZ fH)) (H':=H) (λK k=>pR h.fr (by rw[cJ];exact k)) ?_;refine iQ (λK k=>k) (iQ (λK k=>k) ?_);refine L7 (pc:=pc+1) h ⟨cE _,λ_=>hn,λf q=>absurd q (tY _)⟩ hz mA ?_;rw[Tu (g:=⟨pc+1,st,pl,fr,t⟩) rfl];exact q
theorem by'(h:HB bd es es' sp fp t st pl fr H)(hn:1<=st.length)(hf:AT (st.length-1) fr dd)(hz:st.length<90000)(mA:fr.length<90000)(q:vL bd es es' K (lV en el ⟨pc+1,st,pl,fr,t⟩ pc (.gZ dd))):bQ (cx sc) cl (oK.drop 2) (rb sp fp o3 (Z (.int (pc+1))) (Z (.int 13)) (Z (aI.gZ dd).v) (Z (.int pc)) fE fF fG iO fZ fH) H K:=by
 have q:vL bd es es' K (if cR st=0 then .to ⟨pc+1,st.dropLast,pl,fr,t⟩ else BS.jA ⟨pc+1,st.dropLast,pl,fr,t⟩ dd):=q;refine L8 rfl rfl rfl rfl rfl rfl ?_;show bQ _ _ (fD jW 0::fD jW 1::fD jW 2::jW.drop 3) _ _ _;refine iQ (ρ':=(rb sp fp o3 (Z (.int (pc+1))) (Z (.int 13)) (Z (aI.gZ dd).v) (Z (.int pc)) fE fF fG (Z (.int dd)) fZ fH)) (H':=H) (λK k=>k) ?_;refine iQ (λK k=>k) ?_;by_cases e:cR st=0
 ·rw[aZ e]at q
  have eb:(cR st==0)=u:=by rw[e];rfl
  have step:∀K:PS,K .cont (rb sp fp o3 (Z (.int (pc+1))) (Z (.int 13)) (Z (aI.gZ dd).v) (Z (.int pc)) fE fF fG (Z (.int dd)) fZ fH) (H.set sp (.list (st.map V.int).dropLast))->wS (cx sc) cl (fD jW 2) (rb sp fp o3 (Z (.int (pc+1))) (Z (.int 13)) (Z (aI.gZ dd).v) (Z (.int pc)) fE fF fG (Z (.int dd)) fZ fH) H K:=λK k=>
   nO h.st rfl (nM h.st (pD (xD hn) (oY eb k)))
  exact step (kJ (fun ρ1 h1=>bQ (cx sc) cl (jW.drop 3) ρ1 h1 K) K) (q.next _ rfl _ _ ⟨_,_,_,_,_,_,_,_,_,_,_,_,rfl,h.pop⟩).2
 ·rw[aR e]at q
  refine iQ (ρ':=(rb sp fp o3 (Z (.int (pc+1))) (Z (.int 13)) (Z (aI.gZ dd).v) (Z (.int pc)) fE fF fG (Z (.int dd)) fZ fH)) (H':=H.set sp (.list (st.map V.int).dropLast)) (λK k=>nO h.st rfl (nM h.st (pD (xD hn) (mR (jB.mpr e) k)))) ?_;exact L7 (pc:=pc+1) h.pop (by rw[iR];exact hf) (by rw[iR];exact cM (fW _ _) hz) mA q
theorem cj'(h:HB bd es es' sp fp t st pl fr H)(hn:1<=st.length)(h1:1<=ds.length)(h0:0<=cR st)(hf:∀d∈ds,AT (st.length-1) fr d)(hz:st.length<90000)(mA:fr.length<90000)(q:vL bd es es' K (lV en el ⟨pc+1,st,pl,fr,t⟩ pc (.hO ds))):bQ (cx sc) cl (oK.drop 2) (rb sp fp o3 (Z (.int (pc+1))) (Z (.int 14)) (Z (aI.hO ds).v) (Z (.int pc)) fE fF fG iO fZ fH) H K:=by
 have q:vL bd es es' K (BS.jA ⟨pc+1,st.dropLast,pl,fr,t⟩ (ds.getD (if cR st<(ds.length:J)-1 then (cR st).toNat else ds.length-1) 0)):=q;have cQ:=(Ug (n:=ds.length) h0 h1).2;have hp:=pc' (ds:=ds) h0 h1;generalize (if cR st<(ds.length:J)-1 then (cR st).toNat else ds.length-1)=kk at *;have Bv:ds.getD kk 0∈ds:=by
  rw[sW,cS cQ];exact AO cQ
 have uP:=gc cQ;generalize ds.getD kk 0=dd at *;have ND:kQ 1 (V.int 14::rN ds).length=Z 1:=tP (k:=1) (by
  unfold rN;rw[wP,cJ];exact gP h1)
 refine L8 rfl rfl rfl rfl rfl rfl ?_;show bQ _ _ (fD jW 0::fD jW 1::fD jW 2::jW.drop 3) _ _ _;refine iQ (ρ':=(rb sp fp o3 (Z (.int (pc+1))) (Z (.int 14)) (Z (aI.hO ds).v) (Z (.int pc)) fE fF fG (Z (.int (ds.getD 0 0:O))) fZ fH)) (H':=H) (λK k=>SM (xs:=V.int 14::rN ds) ND (gc (k:=0) h1) k) ?_;refine iQ (ρ':=(rb sp fp o3 (Z (.int (pc+1))) (Z (.int 14)) (Z (aI.hO ds).v) (Z (.int pc)) fE fF fG (Z (.int dd)) fZ fH)) (H':=H.set sp (.list (st.map V.int).dropLast)) (λK k=>nO h.st rfl (nM h.st (pD (xD hn) (SM (xs:=V.int 14::rN ds) hp uP k)))) ?_;refine iQ (λK k=>k) ?_;exact L7 (pc:=pc+1) h.pop (by rw[iR];exact hf _ Bv) (by rw[iR];exact cM (fW _ _) hz) mA q
end
def qZ(l:Y J):Prop:=∀v∈l,bW dQ v
theorem CM{st:Y J}(h:qZ st):bW dQ (cR st):=by
 unfold cR;cases e:st.getLast? with
 | none=>exact⟨by decide,by decide⟩
 | some v=>exact h v (PD e)
theorem qZ.drop{st:Y J}(h:qZ st):qZ st.dropLast:=λv hv=>h v ((O8 _).mem hv)
theorem qZ.push{st:Y J}(h:qZ st)(hv:bW dQ v):qZ (st++[v]):=λaN hu=>by
 rcases oQ.mp hu with q|q
 exact h aN q;rw[iU.mp q];exact hv
theorem qZ.set(h:qZ pl)(hv:bW dQ v):qZ (pl.set k v):=λaN hu=>by
 rcases yp hu with q|q
 exact h aN q;rw[q];exact hv
theorem qZ.jF{st:Y J}{a b:O}(h:qZ st):qZ (jF a b st):=λaN hu=>by
 rcases oQ.mp hu with q|q
 exact h aN (yo q);exact h aN (List.mem_of_mem_drop q)
theorem qZ.getD(h:qZ pl):bW dQ (pl[k]?.getD 0):=by
 cases e:pl[k]? with
 | none=>exact⟨by decide,by decide⟩
 | some v=>exact h v (oF e)
structure Sz(n:O)(g:BS):Prop where
 st:qZ g.st
 pl:qZ g.pl
 sl:g.st.length<=n
 fl:g.fr.length<=n
 tl:g.eJ.length<=n
theorem Tt{g g':BS}(z:Sz n g)(f:AT g.st.length g.fr d)(h:g.jA d= .to g'):Sz (n+1) g':=by
 obtain⟨f1,f2,f3⟩:=f;by_cases e:d=g.fr.length;rw[Tu e]at h;exact nomatch h
 ·have hd:d<g.fr.length:=La f1 e
  have Bn:=cS (l:=g.fr) (i:=g.fr.length-1-d) (n1 hd);generalize g.fr[g.fr.length-1-d]'_=f at Bn;have b0:=f3 f hd Bn;have cl:∀m,f.iH+m<=g.st.length->(jF f.iH m g.st).length<=n+1:=λm hm=>by
   rw[QS (aL (bU _ _) hm) (aL (dL _ _) hm)];exact nP (aL hm z.sl)
  have tk:(g.fr.take (g.fr.length-1-d)).length<=n:=aL (by rw[Dt];exact PN _ _) z.fl;by_cases hc:f.code=3
  ·rw[aZ hc]at b0
   rw[jf hd Bn hc]at h;cases h;exact⟨z.st.jF,z.pl,cl _ b0,by
    show (g.fr.take (g.fr.length-1-d)++[f]).length<=n+1;rw[bA];exact gP tk,nP z.tl⟩
  ·rw[aR hc]at b0
   rw[je hd Bn hc]at h;cases h;exact⟨z.st.jF,z.pl,cl _ b0,nP tk,nP z.tl⟩
theorem vO{l:Y α}(h:l.length<=n):l.dropLast.length<=n:=by rw[iR];exact aL (fW _ _) h
theorem CK{l:Y α}{v:α}(h:l.length<=n):(l++[v]).length<=n+1:=by rw[bA];exact gP h
section
variable{body:Y aI}{el:O->aG O}{g g':BS}{i:aI}
noncomputable def toOf:BO->aG BS
 | .to g=>Z g
 | _=>aB
theorem sC{a b:BS}(h:BO.to a= .to b):a=b:=aT (aW toOf h)
theorem oD'(z:Sz n g)(f:AS g.st.length g.pl.length g.fr i)(h:lV en el {g with pc:=g.pc+1} g.pc i= .to g'):Sz (n+1) g':=by
 have l1:=nP z.sl;have l2:=nP z.fl;have l3:=nP z.tl;cases i with
 | const v=>rw[<-sC h];exact⟨z.st.push (EN v),z.pl,CK z.sl,l2,l3⟩
 | get i=>rw[<-sC h];exact⟨z.st.push z.pl.getD,z.pl,CK z.sl,l2,l3⟩
 | set i=>rw[<-sC h];exact⟨z.st.drop,z.pl.set (CM z.st),vO l1,l2,l3⟩
 | mF i=>rw[<-sC h];exact⟨z.st,z.pl.set (CM z.st),l1,l2,l3⟩
 | drop=>rw[<-sC h];exact⟨z.st.drop,z.pl,vO l1,l2,l3⟩
 | kI=>
  rw[<-sC h];refine⟨z.st.drop.drop.drop.push ?_,z.pl,CK (vO (vO (vO z.sl))),l2,l3⟩;split;exact CM z.st.drop.drop;exact CM z.st.drop
 | br d=>exact Tt (g:= {g with pc:=g.pc+1}) ⟨z.st,z.pl,z.sl,z.fl,z.tl⟩ f h
 | gZ d=>
  have h:(if cR g.st=0 then BO.to ({g with pc:=g.pc+1}: BS).pop else ({g with pc:=g.pc+1}: BS).pop.jA d)= .to g':=h;by_cases e:cR g.st=0
  ·rw[aZ e]at h
   rw[<-sC h];exact⟨z.st.drop,z.pl,vO l1,l2,l3⟩
  ·rw[aR e]at h
   exact Tt (g:=({g with pc:=g.pc+1}: BS).pop) ⟨z.st.drop,z.pl,vO z.sl,z.fl,z.tl⟩ (by
    show AT g.st.dropLast.length g.fr d;rw[iR];exact f.2) h
 | hO ds=>
  have h:(({g with pc:=g.pc+1}: BS).pop.jA (ds.getD (if cR g.st<(ds.length:J)-1 then (cR g.st).toNat else ds.length-1) 0))= .to g':=h;have cQ:(if cR g.st<(ds.length:J)-1 then (cR g.st).toNat else ds.length-1)<ds.length:=by
   have:=f.2.1;by_cases e:cR g.st<(ds.length:J)-1;rw[aZ e];exact dn this e;rw[aR e];exact CX this CW
  generalize (if cR g.st<(ds.length:J)-1 then (cR g.st).toNat else ds.length-1)=kk at *;have Bv:ds.getD kk 0∈ds:=by
   rw[sW,cS cQ];exact AO cQ
  exact Tt (g:=({g with pc:=g.pc+1}: BS).pop) ⟨z.st.drop,z.pl,vO z.sl,z.fl,z.tl⟩ (by
   show AT g.st.dropLast.length g.fr _;rw[iR];exact f.2.2 _ Bv) h
 | ret=>exact nomatch h
 | qS=>exact nomatch h
 | pA=>rw[<-sC h];exact⟨z.st,z.pl,l1,l2,l3⟩
 | dX op=>rw[<-sC h];exact⟨z.st.drop.drop.push (Um f.2 (CM z.st.drop) (CM z.st)),z.pl,CK (vO (vO z.sl)),l2,l3⟩
 | jQ=>rw[<-sC h];exact⟨z.st.drop.push X9,z.pl,CK (vO z.sl),l2,l3⟩
 | call=>
  rw[<-sC h];refine⟨(z.st.drop.drop.push (CM z.st)).push (EN _),z.pl,?_,l2,CK z.tl⟩;show (g.st.dropLast.dropLast++[_]++[_]).length<=n+1;have h2:2<=g.st.length:=f;have:=z.sl;rw[bA,bA,iR,iR];show g.st.length-2+2<=n+1;exact nP (aL (dH (jH h2)) this)
 | block m=>
  have h:(match en g.pc with|none=>BO.mM|some e=>.to (({g with pc:=g.pc+1}: BS).open 2 m g.pc e))= .to g':=h;cases he:en g.pc with
  | none=>rw[he]at h;exact nomatch h
  | some e=>
   rw[he]at h;rw[<-sC h];exact⟨z.st,z.pl,l1,CK z.fl,l3⟩
 | loop m=>
  have h:(match en g.pc with|none=>BO.mM|some e=>.to (({g with pc:=g.pc+1}: BS).open 3 m g.pc e))= .to g':=h;cases he:en g.pc with
  | none=>rw[he]at h;exact nomatch h
  | some e=>
   rw[he]at h;rw[<-sC h];exact⟨z.st,z.pl,l1,CK z.fl,l3⟩
 | iff m=>
  have h:(match en g.pc with|none=>BO.mM|some e=>if cR g.st=0 then .to { ({g with pc:=g.pc+1}: BS).pop.open 4 m g.pc e with pc:=(el g.pc).elim e (· + 1)} else .to (({g with pc:=g.pc+1}: BS).pop.open 4 m g.pc e))= .to g':=h;cases he:en g.pc with
  | none=>rw[he]at h;exact nomatch h
  | some e=>
   rw[he]at h;dsimp only at h;by_cases e0:cR g.st=0
   ·rw[aZ e0]at h
    rw[<-sC h];exact⟨z.st.drop,z.pl,vO l1,CK z.fl,l3⟩
   ·rw[aR e0]at h
    rw[<-sC h];exact⟨z.st.drop,z.pl,vO l1,CK z.fl,l3⟩
 | dG=>
  have h:(match g.fr.getLast? with|none=>BO.mM|some (f:BF)=>.to ⟨f.aS,g.st,g.pl,g.fr,g.eJ⟩)= .to g':=h;cases he:g.fr.getLast? with
  | none=>rw[he]at h;exact nomatch h
  | some f=>
   rw[he]at h;rw[<-sC h];exact⟨z.st,z.pl,l1,l2,l3⟩
 | aS=>
  have h:(if g.fr=[] then BO.lB (B8 g.st) g.eJ else .to ⟨g.pc+1,g.st,g.pl,g.fr.dropLast,g.eJ⟩)= .to g':=h;by_cases e:g.fr=[];rw[aZ e]at h;exact nomatch h
  ·rw[aR e]at h
   rw[<-sC h];exact⟨z.st,z.pl,l1,vO l2,l3⟩
end
section
variable{K:PS}{sp fp:O}{el:O->aG O}{g:BS}{i:aI}{o3 gY lD mB fE fF fG iO fZ fH:aG V}
noncomputable def BO.rO(e:aG O)(f:O->BS):BO:=match e with
 | none=>.mM
 | some e=>.to (f e)
theorem rz{e:aG O}{f:O->BS}(hb:BO.rO e f ≠ .mM):jO λx=>e=Z x:=by
 cases e with
 | none=>exact absurd rfl hb
 | some x=>exact⟨x,rfl⟩
section
variable{pc:O}{st:Y J}{fr:Y BF}
theorem rx(hc:c=2\/c=3)(f:(hZ m).isSome/\(X.io m).1<=st.length)(zf:fr.length<90000)(hE:Dk es en)(hb:BO.rO (en pc) (BS.open ⟨pc+1,st,pl,fr,t⟩ c m pc) ≠ .mM)(h:HB bd es es' sp fp t st pl fr H)(q:vL bd es es' K (BO.rO (en pc) (BS.open ⟨pc+1,st,pl,fr,t⟩ c m pc))):bQ (cx sc) (Cl sc (d+2)) (oK.drop 2) (rb sp fp o3 (Z (.int (pc+1))) (Z (.int c)) (Z (.aM [.int c,.int m])) (Z (.int pc)) fE fF fG iO fZ fH) H K:=by obtain⟨p,hm⟩:=rV.mp f.1;have f2:=f.2;obtain⟨e,he⟩:=rz hb;have hd:=hE pc;rw[he]at hd q;unfold BO.rO BS.open at q;rw[B4 hm]at f2 q;exact cd' hc hm h hd f2 zf λI H' s=>(q.next _ rfl I H' s).1
theorem gs': lV en el ⟨pc+1,st,pl,fr,t⟩ pc (.iff m)=BO.rO (en pc) λe=>⟨if cR st=0 then (el pc).elim e (· + 1) else pc+1,st.dropLast,pl,fr++[⟨4,(X.io m).1,(X.io m).2,st.dropLast.length-(X.io m).1,pc,e⟩],t⟩:=by
 show (match en pc with|none=>BO.mM|some e=>if cR st=0 then .to _ else .to _)=_;cases en pc with
 | none=>rfl
 | some e=>
  show (if cR st=0 then BO.to _ else BO.to _)=BO.to ⟨if cR st=0 then _ else _,_,_,_,_⟩;by_cases e0:cR st=0;rw[aZ e0,aZ e0];rfl;rw[aR e0,aR e0];rfl
theorem oS'(f1:1<=st.length)(f2:(hZ m).isSome)(f3:(X.io m).1<=st.length-1)(zf:fr.length<90000)(hE:Dk es en)(hL:Dk es' el)(hb:lV en el ⟨pc+1,st,pl,fr,t⟩ pc (.iff m) ≠ .mM)(h:HB bd es es' sp fp t st pl fr H)(q:vL bd es es' K (lV en el ⟨pc+1,st,pl,fr,t⟩ pc (.iff m))):bQ (cx sc) (Cl sc (d+2)) (oK.drop 2) (rb sp fp o3 (Z (.int (pc+1))) (Z (.int 4)) (Z (.aM [.int 4,.int m])) (Z (.int pc)) fE fF fG iO fZ fH) H K:=by obtain⟨p,hm⟩:=rV.mp f2;rw[gs']at hb q;obtain⟨e,he⟩:=rz hb;have hd:=hE pc;rw[he]at hd q;unfold BO.rO at q;rw[B4 hm]at f3 q;exact bU' (el:=el) hm h hd (hL pc) f1 (by rw[iR];exact f3) zf λI H' s=>(q.next _ rfl I H' s).1
end
theorem XA(hi:bd[g.pc]?=Z i)(f:AS g.st.length g.pl.length g.fr i)(z:Sz n g)(hn:n<2001)(hE:Dk es en)(hL:Dk es' el)(hb:lV en el {g with pc:=g.pc+1} g.pc i ≠ .mM)(h:HB bd es es' sp fp g.eJ g.st g.pl g.fr H)(q:vL bd es es' K (lV en el {g with pc:=g.pc+1} g.pc i)):bQ (cx sc) (Cl sc (d+2)) oK (rb sp fp o3 (Z (.int g.pc)) gY lD mB fE fF fG iO fZ fH) H K:=by
 have zs:g.st.length<90000:=cM z.sl (bT hn (by decide));have zf:g.fr.length<90000:=cM z.fl (bT hn (by decide));have zt:g.eJ.length<100000:=cM z.tl (bT hn (by decide));refine bT' hi h ?_;have pl:∀{CL:Y J} {pl':Y J} {t':Tl},lV en el {g with pc:=g.pc+1} g.pc i= .to ⟨g.pc+1,CL,pl',g.fr,t'⟩->∀I,I=(rb sp fp o3 (Z (.int (g.pc+1))) (Z (.int i.code)) (Z i.v) (Z (.int g.pc)) fE fF fG iO fZ fH)->∀H',HB bd es es' sp fp t' CL pl' g.fr H'->K .next I H':=λe I hρ H' h'=>(q.next _ e I H' ⟨_,_,_,_,_,_,_,_,_,_,_,_,hρ,h'⟩).1;cases i with
 | const v=>exact BZ (i:=.const v) rfl λI hρ=>jK' h zs (pl rfl I hρ)
 | get i=>exact BZ (i:=.get i) rfl λI hρ=>jN' h f.1 f.2 zs (pl rfl I hρ)
 | set i=>exact BZ (i:=.set i) rfl λI hρ=>jQ' h f.1 f.2.1 f.2.2 (pl rfl I hρ)
 | mF i=>exact BZ (i:=.mF i) rfl λI hρ=>jR' h f.1 f.2.1 f.2.2 (pl rfl I hρ)
 | drop=>exact BZ (i:=.drop) rfl λI hρ=>jL' h f (pl rfl I hρ)
 | kI=>exact BZ (i:=.kI) rfl λI hρ=>jP' h f (pl rfl I hρ)
 | br d=>exact bx' (en:=en) (el:=el) h f zs zf q
 | gZ d=>exact by' (en:=en) (el:=el) h f.1 f.2 zs zf q
 | hO ds=>exact cj' (en:=en) (el:=el) h f.1 f.2.1 (CM z.st).1 f.2.2 zs zf q
 | ret=>exact ch' (en:=en) (el:=el) h f zs zf q
 | qS=>exact cl' (en:=en) (el:=el) h q
 | pA=>exact BZ (i:=.pA) rfl λI hρ=>jO' h (pl rfl I hρ)
 | dX op=>exact BZ (i:=.dX op) (rY (by decide:jL.all jq=u) f.2) λI hρ=>jS' h f.2 f.1 zs (CM z.st.drop) (CM z.st) (pl rfl I hρ)
 | jQ=>exact BZ (i:=.jQ) rfl λI hρ=>jM' h f zs (pl rfl I hρ)
 | call=>exact BZ (i:=.call) rfl λI hρ=>jJ' h f zs zt (pl rfl I hρ)
 | block m=>exact rx (.inl rfl) f zf hE hb h q
 | loop m=>exact rx (.inr rfl) f zf hE hb h q
 | iff m=>exact oS' f.1 f.2.1 f.2.2 zf hE hL hb h q
 | dG=>exact bQ' (en:=en) (el:=el) h f q
 | aS=>exact bR' (en:=en) (el:=el) h f q
end
class inductive D8 (bd:Y aI) (en el:O->aG O):BS->O->tG->Tl->Prop
 | lB{g r t:_}: FT bd g->AZ bd en el g= .lB r t->D8 bd en el g 0 r t
 | step{g g' n r t:_}: FT bd g->AZ bd en el g= .to g'->D8 bd en el g' n r t->D8 bd en el g (n+1) r t
section
variable{el:O->aG O}{g0 g:BS}{m:O}{r:tG}
theorem yW.Q5(h:yW bd en el g0 n k g):∀{m},D8 bd en el g m r t->D8 bd en el g0 (n+m) r t:=by
 induction h with
 | start=>intro m q;rw[nQ];exact q
 | uN _ f hs _ ih=>
  intro m q;rw[gC,nB 1];exact ih (.step f hs q)
 | tI _ f hs ih=>
  intro m q;rw[gC,nB 1];exact ih (.step f hs q)
theorem gM.Q5(h:gM bd en el g0 r t)(hl:bd.length<=240):∃n,n<2000/\D8 bd en el g0 n r t:=by obtain⟨n,k,g,h1,h2,h3,h4⟩:=h;have a:=h1.le;have b:=QL (bd:=bd) (en:=en) (el:=el) (g:=g) λe=>nomatch e.symm.trans h4;have c:k*bd.length<=2*240:=Nat.mul_le_mul h2 hl;exact⟨n,cM (aL a (eN c (lO (eP b hl)))) (by decide),h1.Q5 (.lB h3 h4)⟩
theorem qn(h:AZ bd en el g ≠ .mM):∃i,bd[g.pc]?=Z i/\AZ bd en el g=lV en el {g with pc:=g.pc+1} g.pc i:=by have:=QL h;exact⟨_,cS this,HP (cS this)⟩
end
section
variable{el:O->aG O}{r:tG}{Q:PS}
theorem cE'{g0:BS}{n0:O}(hE:Dk es en)(hL:Dk es' el)(hg:D8 bd en el g0 n0 r t)(hn:n0<2000)(z:Sz 0 g0)(st:FP bd es es' g0 I H)(q:∀l I H,H[l]?=Z (.list (xX r))->(H[2]?=Z (.list (t.map mV))/\H[0]?=Z (pL bd))->Q (.ret (.ref l)) I H):wS (cx sc) (Cl sc (d+2)) (fD EG 2) I H Q:=by
 refine GP (t:=3) (n:=2000) rfl (λk I H=>∃g m,FP bd es es' g I H/\D8 bd en el g m r t/\m+k<2000/\Sz k g) ⟨g0,n0,st,hg,hn,z⟩ (λI H h=>?_) λk I H hk h go fL=>?_
 ·obtain⟨g,m,_,_,h3,_⟩:=h
  exact absurd h3 (kU.mpr (dL _ _))
 ·obtain⟨g,m,⟨o3,gY,lD,mB,fE,fF,fG,iO,fZ,fH,sp,fp,e1,hb⟩,h2,h3,h4⟩:=h
  rw[e1];cases h2 with
  | lB f hs=>
   obtain⟨i,hi,e⟩:=qn (bd:=bd) (en:=en) (el:=el) (g:=g) λe=>nomatch e.symm.trans hs;refine XA (d:=d) (en:=en) (el:=el) (K:=kJ go (zC go Q)) hi (f i hi) h4 (bT hk (by decide)) hE hL (λq=>nomatch (e.trans q).symm.trans hs) hb ⟨λg' Bq=>(nomatch (e.trans Bq).symm.trans hs),λr' t' xN l I H a b=>?_⟩;have e2:=(e.trans xN).symm.trans hs;cases e2;exact q l I H a b
  | step f hs hg=>
   obtain⟨i,hi,e⟩:=qn (bd:=bd) (en:=en) (el:=el) (g:=g) λe=>nomatch e.symm.trans hs;refine XA (d:=d) (en:=en) (el:=el) (K:=kJ go (zC go Q)) hi (f i hi) h4 (bT hk (by decide)) hE hL (λq=>nomatch (e.trans q).symm.trans hs) hb ⟨λg2 ZA I H BD=>?_,λr' t' xN=>nomatch (e.trans xN).symm.trans hs⟩;have e2:=(e.trans ZA).symm.trans hs;cases e2;have z2:=oD' h4 (f i hi) ZA;have hj:=fL I H ⟨_,_,BD,hg,cM (dH (Lc _ k).symm) h3,z2⟩;exact⟨hj,hj⟩
end
section
variable{r:tG}{Q:PE}
def Mm(bd:Y aI)(x0 x1:J):Hp:=[pL bd,.list [.int x0,.int x1],.list []]
theorem kZ'(hb:Sk B 0)(hl:B.length<=235)(hg:gM (B++[.aS]) (eI B 0 mT).en (eI B 0 mT).el (sB [x0,x1,0,0]) r t)(h0:bW dQ x0)(h1:bW dQ x1)(q:∀l H,H[l]?=Z (.list (xX r))->(H[2]?=Z (.list (t.map mV))/\H[0]?=Z (pL (B++[.aS])))->Q (.ref l) H):Wf sc (d+3) 100 [.ref 0,.ref 1,.ref 2] (Mm (B++[.aS]) x0 x1) Q:=by
 obtain⟨n0,hn,hg⟩:=hg.Q5 (by rw[bA];exact aL (gP hl) (by decide));refine cF rfl rfl ?_;show bQ (cx sc) (Cl sc (d+2)) (fD EG 0::EG.drop 1) _ _ _;refine lP' (v:=.list [.int x0,.int x1]) (t:=.list []) hb (cM hl (by decide)) λes es' ep gW op hE0 hL=>?_;show bQ (cx sc) (Cl sc (d+2)) (fD EG 1::fD EG 2::EG.drop 3) [Z (.ref 0),Z (.ref 1),Z (.ref 2),aB,Z (.ref 3),Z (.ref 4),aB,aB,aB,aB,aB,aB,aB,aB,aB,aB,aB,aB,aB] (hE (B++[aI.aS]) (.list [.int x0,.int x1]) (.list []) es ep es' gW op) λfl _ h1=>Q (gT fl) h1;refine iQ (ρ':=(rb 9 10 aB (Z (.int (0:O))) aB aB aB aB aB aB aB aB aB)) (H':=hE (B++[aI.aS]) (.list [.int x0,.int x1]) (.list []) es ep es' gW op++[bY.list [.int x0,.int x1]]++[bY.list [.int 0,.int 0]]++[bY.list ([V.int x0,V.int x1]++[V.int 0,V.int 0])]++[bY.list []]++[bY.list []]) (λK k=>k) ?_;have w4:qZ [x0,x1,0,0]:=λv hv=>by
  simp only[oE,nA,D0]at hv;rcases hv with rfl|rfl|rfl|rfl
  exact h0;exact h1;exact⟨by decide,by decide⟩;exact⟨by decide,by decide⟩
 exact cE' (d:=d) hE0 hL hg hn ⟨λv hv=>absurd hv nA,w4,cE 0,cE 0,cE 0⟩ ⟨aB,aB,aB,aB,aB,aB,aB,aB,aB,aB,9,10,rfl,⟨rfl,rfl,⟨ep,rfl⟩,⟨gW,rfl⟩,rfl,rfl,rfl,by decide,by decide,by decide⟩⟩ λl I H a b=>q l H a b
end
noncomputable def DE:V:=.aM [.str "h",.str "f",.int 0,.int 5]
def Cw(B:Y V):V:=.aM [.int 5,DB 2,.aM B]
def Kn(B:Y V):Y V:=[.aM qM,.aM [DE],.aM [Cw B],.aM []]
noncomputable def N0:Y V:=[.aM [],.aM [],.aM [],.none]
noncomputable def ji:Y V:=[.aM [],.aM [],.aM []]
def Eg(B:Y V):V:=.aM (Kn B++N0++ji)
section
variable{a:O}
variable{Q:PE}{B:Y V}{r:Hp}
theorem T9(g:V->V)(e:H[a]?=Z (.list xs))(hz:xs.length<aF)(ht:∀x∈xs,∀q:aG V->Hp->Prop,q (Z (g x)) H->wE (cx sc) (Cl sc d) (.aX (.D 1) 72 []) [Z (.ref a),Z x] H λy h'=>q (Z y) h')(q:Q (.aM (xs.map g)) (H++[.list (xs.map g)])):Wf sc (d+1) 85 [.ref a] H Q:=by refine cF rfl rfl (QO (xs:=xs) (f:=λx=>x) g (λk=>?_) hz ht (Oe eA q));show bE (lK H a) _=_;rw[show lK H a=Z xs from pB e,List.map_id'];rfl
theorem OR(e:H[a]?=Z (.list []))(q:Q (.aM []) (H++[.list []])):Wf sc (d+1) 85 [.ref a] H Q:=
 T9 (xs:=[]) (λx=>x) e (by decide) (λx hx=>absurd hx nA) q
theorem lx'(q:Q (.aM [DE]) (dT B r++[.list [DE]])):Wf sc (d+2) 85 [.ref 2] (dT B r) Q:=
 T9 (xs:=[.ref 11]) (λ_=>DE) rfl (by decide) (λx hx q hq=>by
  rw[iU.mp hx];exact cF rfl rfl hq) q
theorem ln'(q:Q (.aM [Cw B]) (dT B r++[.list [Cw B]])):Wf sc (d+2) 85 [.ref 3] (dT B r) Q:=
 T9 (xs:=[.ref 12]) (λ_=>Cw B) rfl (by decide) (λx hx q hq=>by
  rw[iU.mp hx];exact cF rfl rfl hq) q
theorem my(q:∀g,Q (Eg B) (dT B g)):Wf sc (d+3) 84 [.ref 0] (dT B []) Q:=by refine cF rfl rfl ?_;show bQ (cx sc) (Cl sc (d+2)) (fD L5 0::fD L5 1::fD L5 2::[]) _ _ _;refine iQ (ρ':=[Z (.ref 0),Z (.ref 16)]) (H':=dT B [.list [DE],.list [Cw B],.list (Kn B)]) (λK k=>lx' (r:=[]) (ln' (r:=[.list [DE]]) k)) ?_;refine iQ (ρ':=[Z (.ref 0),Z (.ref 19)]) (H':=dT B [.list [DE],.list [Cw B],.list (Kn B),.list [],.list N0,.list (Kn B++N0)]) (λK k=>OR (H:=dT B [.list [DE],.list [Cw B],.list (Kn B)]) (a:=6) rfl k) ?_;exact OR (a:=8) rfl (OR (a:=9) rfl (OR (a:=10) rfl (q [_,_,_,_,_,_,_,_,_,_,_])))
end
theorem Om{n:O}:∀{xs:Y V},(∀x∈xs,pF x x n=Z u)->lE xs xs n=Z u
 | [],_=>rfl
 | x::r,h=>by
  show bE (pF x x n) (λa=>bE (lE r r n) λb=>Z (a&&b))=_;rw[h x vG,Om λy hy=>h y (tX _ hy)];rfl
theorem Gs: pF (.int i) (.int i) n=Z u:=aW Z (Ce i)
theorem Uw{s:lA}: pF (.str s) (.str s) n=Z u:=aW Z (Ce s)
theorem sT{x:V}{r:Y V}(h:pF x x n=Z u)(k:lE r r n=Z u):lE (x::r) (x::r) n=Z u:=by show bE (pF x x n) (λa=>bE (lE r r n) λb=>Z (a&&b))=_;rw[h,k];rfl
theorem pY'{i:aI}: pF i.v i.v (n+1)=Z u:=by
 show lE (.int i.code::i.more) (.int i.code::i.more) n=Z u;refine sT Gs ?_;cases i with
 | hO ds=>
  refine Om λx hx=>?_;obtain⟨k,_,rfl⟩:=E8.mp hx;exact Gs
 | const|get|set|mF|br|gZ|call|block|loop|iff=>exact sT Gs rfl
 | _=>rfl
theorem qb': pF (Eg (Bi.map aI.v)) (Eg (Bi.map aI.v)) 20=Z u:=by
 show lE _ _ 19=_;refine sT ?_ (sT ?_ (sT ?_ ?_));rfl
 ·show lE _ _ 18=_
  refine sT ?_ rfl;show lE _ _ 17=_;exact sT Uw (sT Uw rfl)
 ·show lE _ _ 18=_
  refine sT ?_ rfl;show lE _ _ 17=_;refine sT rfl (sT rfl (sT ?_ rfl));show lE (Bi.map aI.v) (Bi.map aI.v) 16=_;exact Om λx hx=>by
   obtain⟨k,_,rfl⟩:=E8.mp hx;exact pY'
 ·rfl
theorem qc'{r:tG}: lE (xX r) (xX r) 20=Z u:=by
 cases r with
 | none=>exact sT Uw rfl
 | some p=>exact sT Gs (sT Gs rfl)
theorem qe': lE (t.map mV) (t.map mV) 20=Z u:=Om λx hx=>by obtain⟨p,_,rfl⟩:=E8.mp hx;show lE _ _ 19=_;exact sT Gs (sT Gs rfl)
theorem ZU{i:O}{Q:aC->Prop}(hi:H[i]?=Z (.list xs))(hj:H[j]?=Z (.list xs))(hv:lE xs xs 20=Z u)(q:Q aE):bZ (xF G .NotEq (.ref i) (.ref j) H) Q:=by refine .of (x:=aE) ?_ q;show bE (bE (lK H i) λxs=>bE (lK H j) λys=>if xs.length=ys.length then lE xs ys 20 else Z aE) _=_;rw[show lK H i=Z xs from pB hi,show lK H j=Z xs from pB hj];show bE (if xs.length=xs.length then lE xs xs 20 else Z aE) _=_;rw[aZ rfl,hv];rfl
theorem ip: sO (λ_=>aE) (Eg (Bi.map aI.v))=u:=by
 show (zZ (λ_=>aE) qM&&(zZ (λ_=>aE) [DE]&&(zZ (λ_=>aE) [Cw (Bi.map aI.v)]&&zZ (λ_=>aE) (V.aM []::(N0++ji)))))=u;have h:zZ (λ_=>aE) [Cw (Bi.map aI.v)]=u:=by
  show ((u&&(sO (λ_=>aE) (DB 2)&&(zZ (λ_=>aE) (Bi.map aI.v)&&u)))&&u)=u;rw[nW CD];rfl
 rw[h];rfl
theorem od{f:Y O}{L:Hp}(hl:L.length=f.length)(nd:f.Nodup)(h:∀(i j:O),f[i]?=Z j->fQ (λo=>H[j]?=Z o) (λo=>(L[i]?).map (iZ (fN f H.length))=Z o)):iW f L H:=
 ⟨hl,nd,λi j e=>by
  obtain⟨o,a,b⟩:=h i j e;exact⟨iN a,a.trans b.symm⟩⟩
theorem iA'{a b:O}(i:O):((dT (Bi.map aI.v) [])[i]?).map (iZ (fN (iE n) a))=((dT (Bi.map aI.v) [])[i]?).map (iZ (fN (iE n) b)):=by
 have h:∀c,iZ (fN (iE n) c) (.list (Bi.map aI.v))= .list (Bi.map aI.v):=λc=>Az (nW CD _);have e:(dT (Bi.map aI.v) []).map (iZ (fN (iE n) a))=(dT (Bi.map aI.v) []).map (iZ (fN (iE n) b)):=by
  show ((dT [] []).take 13).map (iZ (fN (iE n) a))++[iZ _ (.list (Bi.map aI.v))]=((dT [] []).take 13).map (iZ (fN (iE n) b))++[iZ _ (.list (Bi.map aI.v))];rw[h,h];rfl
 rw[<-fJ,e,fJ]
theorem OU(s:iW (iE n) (dT (Bi.map aI.v) []) H)(hl:H.length<=H'.length)(h:∀j,j∈iE n->H'[j]?=H[j]?):iW (iE n) (dT (Bi.map aI.v) []) H':=
 ⟨s.len,s.nd,λi j e=>⟨eP (s.fK i j e).1 hl,(h j (oF e)).trans ((s.fK i j e).2.trans (iA' i))⟩⟩
theorem og(s:iW (iE n) (dT (Bi.map aI.v) []) H)(b:Cf (iE n) H L' H')(hL:∀i,i<14->L'[i]?=(dT (Bi.map aI.v) [])[i]?):iW (iE n) (dT (Bi.map aI.v) []) H':=
 OU s (by rw[b.len];exact bU _ _) λj hj=>by
  obtain⟨i,hi⟩:=I4 hj;rw[b.fK i j hi,hL i (iN hi),(s.fK i j hi).2]
theorem dz{L:Hp}(s:iW (iE n) L H){j:O}(hj:j∈iE n):j<H.length:=by obtain⟨i,hi⟩:=I4 hj;exact (s.fK i j hi).1
structure u2(n:O)(Bi:Y aI)(H:Hp):Prop where
 m:H[n]?=Z (.inst 13 (DO n (n+12) (n+14) (n+18)))
 eI':H[n+18]?=Z (.list [.ref (n+17)])
 fn:H[n+17]?=Z (.inst 12 [(18,.int 5),(20,DB 2),(39,.ref (n+16))])
 bd:H[n+16]?=Z (pL Bi)
theorem KW(s:iW (iE n) (dT (Bi.map aI.v) []) H):u2 n Bi H:=by refine⟨(s.fK 0 n rfl).2,(s.fK 3 (n+18) rfl).2,(s.fK 12 (n+17) rfl).2,(s.fK 13 (n+16) rfl).2.trans ?_⟩;exact aW Z (Az (nW CD _))
theorem mC'(h:sc.length<=aF)(q:Q (.ref H.length,H++[.list (sc.map .int)])):bZ (Fi (cx sc) .list [.g 112] H) Q:=by refine .of (x:=(.ref H.length,H++[.list (sc.map .int)])) ?_ q;show bE (eU (decide (sc.length<=aF)) (Z (sc.map V.int))) _=_;rw[pC (decide_eq_true h)];rfl
theorem mD'(h:sc.length<=aF)(q:Q (.int ((sc.map V.int).length:O),H)):bZ (Fi (cx sc) .len [.g 112] H) Q:=by refine .of (x:=(.int ((sc.map V.int).length:O),H)) ?_ q;show bE (eU (decide (sc.length<=aF)) (Z (sc.map V.int))) _=_;rw[pC (decide_eq_true h)];rfl
structure Pk(bd B:Y aI)(x0 x1:J):Prop where
 eq:bd=B++[.aS]
 sk:Sk B 0
 len:B.length<=235
 wp:(X.gR.eG 2 0 2 0).wp (λy=>yU ⟨gM bd (eI B 0 mT).en (eI B 0 mT).el (sB [x0,x1,0,0]),Fa [x0,x1,0,0]⟩ y/\y.aP.length<=1333) bd
theorem cF'(h:WV bd):∃B,Pk bd B x0 x1:=by
 obtain⟨bL,h',e,s,he,hl⟩:=h;refine⟨[.const 7,.set 3]++bL,e,?_,?_,?_⟩
 ·have:=co' (a:=[.const 7,.set 3]++bL) (.dI (iS.Ga (by decide)) s.vN) (r:=[]) (d:=0) trivial
  rwa [pH]at this
 ·rw[bA]
  exact aL (eR hl 2) (by decide)
 ·have w:=cD' (bd:=bd) (pl0:=[x0,x1,0,0]) (bB:=0) rfl s he hl e mA'
  obtain⟨f,p⟩:=jE' (bB:=0);have w2:=vg f w;rw[p]at w2;refine U7 w2 λy q=>⟨q.1,kL' (aL q.2 ?_)⟩;rw[e,bA,bA];exact aL (eR (yQ 5 (gP (eR hl 2))) 6) (by decide)
section
variable{Kk:PS}{o0 o2 o3 o4 o5 o6:aG V}
theorem iB'{B:Y V}{g:Hp}(i:O)(hi:i<14):(dT B g)[i]?=(dT B [])[i]?:=by show (dT B []++g)[i]?=_;exact gO hi
theorem lI'(nY:iW (iE n) (dT (bd.map aI.v) []) H)(k:∀H2,iW (iE n) (dT (bd.map aI.v) []) H2->Kk .next [o0,Z (.ref n),o2,o3,Z (Eg (bd.map aI.v)),Z (.ref (n+16)),o6,o7] H2):wS (cx sc) (oR sc (d+3)) (fD oJ 1) [o0,Z (.ref n),o2,o3,o4,o5,o6,o7] H Kk:=by have m:=KW nY;refine Ud m.m rfl (Fo (f:=iE n) (L:=dT (bd.map aI.v) []) (as:=[.ref 0]) rfl nY rfl (my λg H2 b=>?_));have s2:=og nY b (iB');have m2:=KW s2;rw[Uy ip];exact BY m2.m rfl rfl (rJ m2.eI' rfl rfl (BY m2.fn rfl rfl (k H2 s2)))
theorem lJ'(hs:sc.length<=aF)(k:Kk .next [Z (.g 112),Z (.ref n),Z (.ref H.length),o3,o4,o5,o6,o7] (H++[.list [.int ((Gn sc).fmod 4294967296),.int ((((sc.map V.int).length:O):J).fmod 4)]])):wS (cx sc) (oR sc d) (fD oJ 2) [Z (.g 112),Z (.ref n),o2,o3,o4,o5,o6,o7] H Kk:=
 mD' hs k
theorem lM'(nY:iW (iE n) (dT (bd.map aI.v) []) H)(k:∀I H2,Kk (.ret (.bool u)) I H2):wS (cx sc) (oR sc (d+3)) (fD oJ 6) [o0,Z (.ref n),o2,o3,Z (Eg (bd.map aI.v)),o5,o6,o7] H Kk:=by have m:=KW nY;refine Ud m.m rfl (Fo (f:=iE n) (L:=dT (bd.map aI.v) []) (as:=[.ref 0]) rfl nY rfl (my λg H2 b=>?_));rw[Uy ip];exact .of (x:=u) qb' (k _ _)
end
structure Pq(n q p v h t:O)(bd:Y aI)(bG:Y dF)(m x0 x1:J)(H:Hp):Prop where
 nY:iW (iE n) (dT (bd.map aI.v) []) H
 Ku:H[q]?=Z (IV p m)
 row:H[p]?=Z (.list (bG.map dF.v))
 vals:H[v]?=Z (.list [.int x0,.int x1])
 fm':H[h]?=Z (.list [])
 eJ:H[t]?=Z (.list [])
 vh:v<h
 ht:h<t
 mv:∀j∈iE n,j<v
 tq:t<q
 tp:t<p
section
variable{h p q:O}
variable{Kk:PS}{o0 o2 o3 o4 o5 o6:aG V}{v hd td:O}
theorem lK'(bp:Pk bd B x0 x1)(nY:iW (iE n) (dT (bd.map aI.v) []) H)(hv:H[v]?=Z (.list [.int x0,.int x1]))(hh:H[hd]?=Z (.list []))(ht:H[td]?=Z (.list []))(l1:v<hd)(l2:hd<td)(mv:∀j∈iE n,j<v)
  (k:∀y q p H2,yU ⟨gM bd (eI B 0 mT).en (eI B 0 mT).el (sB [x0,x1,0,0]),Fa [x0,x1,0,0]⟩ y->y.aP.length<=1333->Pq n q p v hd td bd (BA y.aP y.aH) y.aF x0 x1 H2->Kk .next [o0,Z (.ref n),o2,Z (.ref q),o4,o5,o6,o7] H2):wS (cx sc) (oR sc (d+10)) (fD oJ 4) [o0,Z (.ref n),o2,o3,o4,o5,o6,o7] H Kk:=by
 refine Fo (f:=iE n) (L:=dT (bd.map aI.v) []) (as:=[.ref 0,.int 1]) rfl nY rfl (mi' bp.wp (λy f=>⟨f.1.B7,cM f.2 (by decide)⟩) λy l j L' aS hl hj hm Yj H2 b=>?_);have hq:=(b.pos nY (iN hl)).2;have hp:=(b.pos nY (iN hj)).2;rw[hl]at hq;rw[hj]at hp;have nm:∀{i:O} {o:bY},H[i]?=Z o->v<=i->H2[i]?=Z o:=λ{i o} e hi=>(b.keep i (iN e) λq=>kU.mpr hi (mv i q)).trans e;have W2:∀{l:O},14<=l->td<fN (iE n) H.length l:=λ{l} h=>by
  rw[Cv (f:=iE n) h];exact eP (iN ht) (bU _ _)
 exact k y (fN (iE n) H.length l) (fN (iE n) H.length j) H2 aS.1 aS.2 ⟨og nY b hm,hq,hp.trans (aW Z (Az (nW IG _))),nm hv (cE _),nm hh (lO l1),nm ht (lO (bT l1 l2)),l1,l2,mv,W2 Yj.1,W2 Yj.2⟩
theorem kM'{t:O}{bG:Y dF}(s:Pq n q p v h t bd bG m x0 x1 H):iW [q,p,v,t] (RC bG m x0 x1) H:=by
 have hqp:q≠p:=λe=>by
  have:=aW qN (aT (s.Ku.symm.trans (e▸s.row)));exact cI this
 have h1:=s.vh;have h2:=s.ht;have h3:=s.tq;have h4:=s.tp;refine od rfl ?_ λi j e=>?_
 ·simp only[Dv,oE,nA,D0,not_or,G0,and_true,k7]
  have h2:=bT h1 h2;exact⟨⟨hqp,rU (bT h2 h3),rU h3⟩,⟨rU (bT h2 h4),rU h4⟩,mK h2⟩
 ·match i,e with
  | 0,e=>exact⟨_,aT e▸s.Ku,rfl⟩
  | 1,e=>exact⟨_,aT e▸s.row,aW Z (Az (nW IG _))⟩
  | 2,e=>exact⟨_,aT e▸s.vals,rfl⟩
  | 3,e=>exact⟨_,aT e▸s.eJ,rfl⟩
  | i+4,e=>exact nomatch e
theorem cG'(hb:H[n+16]?=Z (pL bd))(hv:H[v]?=Z (.list [.int x0,.int x1]))(hh:H[h]?=Z (.list []))(l0:n+16<v)(l1:v<h):iW [n+16,v,h] (Mm bd x0 x1) H:=by
 refine od rfl ?_ λi j e=>?_
 ·simp only[Dv,oE,nA,D0,not_or,G0,and_true,k7]
  exact⟨⟨mK l0,mK (bT l0 l1)⟩,mK l1⟩
 ·match i,e with
  | 0,e=>exact⟨_,aT e▸hb,aW Z (Az (nW CD _))⟩
  | 1,e=>exact⟨_,aT e▸hv,rfl⟩
  | 2,e=>exact⟨_,aT e▸hh,rfl⟩
  | i+3,e=>exact nomatch e
theorem lh{r:tG}: iZ g (.list (xX r))= .list (xX r):=by cases r<;>rfl
theorem tu: iZ g (.list (t.map mV))= .list (t.map mV):=Az (nW (λ_=>rfl) _)
theorem lL'{t:O}{y:X}(bp:Pk bd B x0 x1)(aS:yU ⟨gM bd (eI B 0 mT).en (eI B 0 mT).el (sB [x0,x1,0,0]),Fa [x0,x1,0,0]⟩ y)(Hx:y.aP.length<=1333)(s:Pq n q p v h t bd (BA y.aP y.aH) y.aF x0 x1 H)(w0:bW dQ x0)(w1:bW dQ x1)
  (k:∀H2,iW (iE n) (dT (bd.map aI.v) []) H2->Kk .next [o0,Z (.ref n),Z (.ref v),Z (.ref q),o4,Z (.ref (n+16)),Z (.ref h),Z (.ref t)] H2):wS (cx sc) (oR sc (d+3)) (fD oJ 5) [o0,Z (.ref n),Z (.ref v),Z (.ref q),o4,Z (.ref (n+16)),Z (.ref h),Z (.ref t)] H Kk:=by
 obtain⟨F,g⟩:=aS.Mj;have sr:=kM' s;have Hh:=aS.qO;refine Fo (f:=[q,p,v,t]) (L:=RC (BA y.aP y.aH) y.aF x0 x1) (as:=[.ref 0,.ref 2,.ref 3]) rfl sr rfl (la' (d:=d+1) g aS.aF Hh (by unfold BA;rw[cJ];exact Hx) w0 w1 ⟨rfl,rfl,rfl⟩ λres t' l L' hh hl vU H2 b=>?_);obtain⟨SB,hv',Bs⟩:=vU;have Zr:=(b.pos sr (iN hl)).2;rw[hl,FH,lh]at Zr;have gh':H2[t]?=Z (.list (t'.map mV)):=(b.fK 3 t rfl).trans (by rw[SB,FH,tu]);have gk':H2[v]?=Z (.list [.int x0,.int x1]):=(b.fK 2 v rfl).trans (by rw[hv'];rfl);have h1:=s.vh;have h2:=s.ht;have h3:=s.tq;have h4:=s.tp;have keep:∀i,i<=h->i≠v->H2[i]?=H[i]?:=λi hi gF=>b.keep i (cM hi (bT h2 (iN s.eJ))) λq=>by
  simp only[oE,nA,D0]at q;exact q.elim (λe=>JC.mpr (bT h2 h3) (e▸hi)) λq=>q.elim (λe=>JC.mpr (bT h2 h4) (e▸hi)) λq=>q.elim gF λe=>JC.mpr h2 (e▸hi)
 have DZ:iW (iE n) (dT (bd.map aI.v) []) H2:=OU s.nY (by rw[b.len];exact bU _ _) λj hj=>keep j (lO (bT (s.mv j hj) h1)) (mK (s.mv j hj));have fy':H2[h]?=Z (.list []):=(keep h (cE _) (rU h1)).trans s.fm';have Sh:n+16<v:=s.mv _ (E8.mpr ⟨16,by decide,rfl⟩);have sb:=cG' (KW DZ).bd gk' fy' Sh h1;have jG:H.length<=fN [q,p,v,t] H.length l:=by
  rw[Cv (f:=[q,p,v,t]) Bs];exact bU _ _
 have hh:gM (B++[.aS]) (eI B 0 mT).en (eI B 0 mT).el (sB [x0,x1,0,0]) res t':=bp.eq▸hh;have nq:iW [n+16,v,h] (Mm (B++[.aS]) x0 x1) H2:=bp.eq▸sb;refine Fo (f:=[n+16,v,h]) (L:=Mm (B++[.aS]) x0 x1) (as:=[.ref 0,.ref 1,.ref 2]) rfl nq rfl (kZ' (d:=d) bp.sk bp.len hh w0 w1 λl2 L2 nJ jU H3 b2=>?_);obtain⟨Hy,qI⟩:=jU;have Zs:=(b2.pos nq (iN nJ)).2;rw[nJ,FH,lh]at Zs;have gj':H3[h]?=Z (.list (t'.map mV)):=(b2.fK 2 h rfl).trans (by rw[Hy,FH,tu]);have fj':H3[n+16]?=Z (pL bd):=(b2.fK 0 (n+16) rfl).trans (by
  rw[qI,bp.eq];exact aW Z (Az (nW CD _)))
 have cg:∀{i:O} {o:bY},H2[i]?=Z o->i≠n+16->i≠v->i≠h->H3[i]?=Z o:=λ{i o} e a1 a2 a3=>(b2.keep i (iN e) λq=>by
  simp only[oE,nA,D0]at q;rcases q with q|q|q
  exact a1 q;exact a2 q
  ·exact a3 q).trans e
 have tH:=iN s.eJ;have Ml:=bT h1 h2;have gt:∀{a:O},a<t->fN [q,p,v,t] H.length l≠a:=λh=>rU (eP (bT h tH) jG);have ga':=cg Zr (gt (bT Sh Ml)) (gt Ml) (gt h2);have gi':=cg gh' (rU (bT Sh Ml)) (rU Ml) (rU h2);have UF:iW (iE n) (dT (bd.map aI.v) []) H3:=OU DZ (by rw[b2.len];exact bU _ _) λj hj=>by
  by_cases e:j=n+16;rw[e,fj'];exact (KW DZ).bd.symm
  ·have J7:=s.mv j hj
   exact b2.keep j (dz DZ hj) λq=>by
    simp only[oE,nA,D0]at q;exact q.elim e λq=>q.elim (mK J7) (mK (bT J7 h1))
 exact ZU ga' Zs qc' (ZU gi' gj' qe' (k H3 UF))
end
theorem qh{o:bY}: H.length<(H++[o]).length:=by rw[bA];exact iB _
theorem lN'(hs:sc.length<=63):Wf sc 60 105 [.g 112] [] λv _=>v= .bool u:=by
 have hm:sc.length<=aF:=aL hs (by decide);refine X7 rfl rfl (mC' hm (Jx rfl (lQ' (d:=39) (aL hs (by decide)) λn H1 bd bok nY=>?_)));show bQ (cx sc) (oR sc 59) (fD oJ 1::oJ.drop 2) [Z (.g 112),Z (.ref n),aB,aB,aB,aB,aB,aB] H1 λfl _ _=>gT fl= .bool u;refine lI' (d:=56) (Kk:=kJ (fun ρ1 h1=>bQ (cx sc) (oR sc 59) (oJ.drop 2) ρ1 h1 λfl _ _=>gT fl= .bool u) λfl _ _=>gT fl= .bool u) nY λH2 DZ=>?_;show bQ (cx sc) (oR sc 59) (fD oJ 2::fD oJ 3::oJ.drop 4) [Z (.g 112),Z (.ref n),aB,aB,Z (Eg (bd.map aI.v)),Z (.ref (n+16)),aB,aB] H2 λfl _ _=>gT fl= .bool u;have w0:bW dQ ((Gn sc).fmod 4294967296):=EN _;have w1:bW dQ ((((sc.map V.int).length:O):J).fmod 4):=⟨O6 _ (by decide),yI (xe _ (by decide)) (by decide)⟩;refine iQ (λK k=>lJ' hm k) ?_;generalize (Gn sc).fmod 4294967296=x0 at *;generalize (((sc.map V.int).length:O):J).fmod 4=x1 at *;refine iQ (ρ':=[Z (.g 112),Z (.ref n),Z (.ref H2.length),aB,Z (Eg (bd.map aI.v)),Z (.ref (n+16)),Z (.ref (H2++[bY.list [.int x0,.int x1]]).length),Z (.ref (H2++[bY.list [.int x0,.int x1]]++[bY.list []]).length)]) (H':=H2++[bY.list [.int x0,.int x1]]++[bY.list []]++[bY.list []]) (λK k=>k) ?_;obtain⟨B,bp⟩:=cF' (x0:=x0) (x1:=x1) bok;have hv:(H2++[bY.list [.int x0,.int x1]]++[bY.list []]++[bY.list []])[H2.length]?=Z (.list [.int x0,.int x1]):=lH (lH eA);have hh:(H2++[bY.list [.int x0,.int x1]]++[bY.list []]++[bY.list []])[(H2++[bY.list [.int x0,.int x1]]).length]?=Z (.list []):=lH eA;have ht:(H2++[bY.list [.int x0,.int x1]]++[bY.list []]++[bY.list []])[(H2++[bY.list [.int x0,.int x1]]++[bY.list []]).length]?=Z (.list []):=eA;have l1:H2.length<(H2++[bY.list [.int x0,.int x1]]).length:=qh;have l2:(H2++[bY.list [.int x0,.int x1]]).length<(H2++[bY.list [.int x0,.int x1]]++[bY.list []]).length:=qh;have mv:∀j∈iE n,j<H2.length:=λj hj=>dz DZ hj;have UF:iW (iE n) (dT (bd.map aI.v) []) (H2++[bY.list [.int x0,.int x1]]++[bY.list []]++[bY.list []]):=OU DZ (by rw[fB,fB,bA];exact bU _ _) λj hj=>by
  rw[fB,fB];exact gO (mv j hj)
 generalize H2++[bY.list [.int x0,.int x1]]++[bY.list []]++[bY.list []]=H3 at *;generalize (H2++[bY.list [.int x0,.int x1]]++[bY.list []]).length=td at *;generalize (H2++[bY.list [.int x0,.int x1]]).length=hd at *;generalize H2.length=v at *;show bQ (cx sc) (oR sc 59) (fD oJ 4::oJ.drop 5) _ _ _;refine lK' (d:=49) (Kk:=kJ (fun ρ1 h1=>bQ (cx sc) (oR sc 59) (oJ.drop 5) ρ1 h1 λfl _ _=>gT fl= .bool u) λfl _ _=>gT fl= .bool u) bp UF hv hh ht l1 l2 mv λy q p H4 aS Hx mk=>?_;show bQ (cx sc) (oR sc 59) (fD oJ 5::oJ.drop 6) _ _ _;refine lL' (d:=56) (Kk:=kJ (fun ρ1 h1=>bQ (cx sc) (oR sc 59) (oJ.drop 6) ρ1 h1 λfl _ _=>gT fl= .bool u) λfl _ _=>gT fl= .bool u) bp aS Hx mk w0 w1 λH5 mT'=>?_;show bQ (cx sc) (oR sc 59) (fD oJ 6::oJ.drop 7) _ _ _;exact lM' (d:=56) (Kk:=kJ (fun ρ1 h1=>bQ (cx sc) (oR sc 59) (oJ.drop 7) ρ1 h1 λfl _ _=>gT fl= .bool u) λfl _ _=>gT fl= .bool u) mT' λI H=>rfl
theorem qH'(sc:Y J)(hs:sc.length<=63):wF (cx sc) 60 105 [.g 112] [] λv _=>v= .bool u:=by obtain⟨h⟩:=lN' hs;exact h
end Mine.Internal
end
theorem PySem.Challenge.cw_nm0168_02_holds : PySem.Challenge.rw_nm0168_02.Holds :=
 Mine.Internal.qI' λsc hs=>Mine.Internal.qH' sc hs
