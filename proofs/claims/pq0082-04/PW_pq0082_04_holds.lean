import PyProof.Rows.All
import Wide.All
import OpenK.AllK
import Wide.FinOn
import Lean
import PySem.Challenge.RW_pq0082_04
set_option Elab.async false
set_option tactic.hygienic false
set_option maxRecDepth 100000
set_option maxErrors 1000
set_option linter.all false
set_option genSizeOf false
set_option genInjectivity false
set_option genCtorIdx false
set_option backward.match.sparseCases false
set_option maxHeartbeats 1000000
open PySem PySem.W PySem.Calls PyProof.Rows
namespace Mine
namespace Internal
open PySem renaming wpAny_bind→A7,wpAny_pure→A9,Value→Ac,Shared→Ad,wpAny_holding→Ay,sizeLine_eq→AV,Around→B2,wpAny_call_entry→B4,wpAny_standAt→B8,wpAny_newObj_type→Bb,wpAny_callSpecial?_slot→Bm,wpAny_setField→Bv,wpAny_isInstance→BS,wpAny_setState_of→BV,codeAny_builtin→BZ,wpAny_field→C4,wpAny_dictEntries→Cf,wpAny_rule→Cs,wpAny_typeNameOfWhole_keyiter→CI,wpAny_loadName_local→CK,wpAny_execs_cons→D2,wpAny_askSetting→D3,isSubtype_stop→D8,wpAny_notOrdered_dict→D9,wpAny_mono→Dc,wpAny_dictEpoch→Dh,wpAny_truthy_bool→Dk,wpAny_typeNameOf_keyiter→Dp,wpAny_attempt→Ds,wpAny_forIn_list→Dz,wpAny_seqItems→DC,strLen_append→DU,wpAny_setEpoch_of→DY,wpAny_of_eq→Ek,wpAt_of_wpAny→En,plainId_quiet→EF,wpAny_specialOf→EO,wpAny_Constant_int→EU,sub_AttributeError→EV,wpAny_storeSet_of→Fg,wpAny_sequenceKey→Fh,wpAny_isNot_plain→Fi,wpAny_runValue→Fm,wpAny_typeOf→Fp,wpAny_Name→FW,wpAny_updateSeq→Gb,wpAny_execs_nil→Gc,wpAny_pyIter_striter_ascii→GJ,slot_dict_contains→GQ,wpAny_is_plain→GR,call_meets→GV,wpAny_pyIter_slot→Hq,wpAny_throw→Hw,wpAny_getItem_list_slice→Hy,noFill_tuple_add→I4,entryFor_of_tree→I5,wpAny_pyIter_tupleiter→It,wpAny_pyIter_rangeiter→Iu,wpAt_bind→Iv,concat_meets→IJ,wpAny_call→IM,wpAny_operating→IO,codeAny_of_tree→IP,wpAny_pyIter_listiter→I_,wpAny_isOneOf_keyiter→J0,builtinLookup_eq_fast→J1,wpAny_updateDictKeys→Jp,wpAny_pyIter_keyiter→Jq,wpAny_fieldsOf→Jz,wpAny_setEntries_of→JU,wpAny_loadName_free→JV,seq_tuple_add→Kc,rangeSize_one→Kd,evalPart_some→Kf,evalPart_none→Kg,slot_listiter_next→KF,ks_wpAt_execs_cons→KH,codeAny_call_cells→KI,arm_isTrue_Compare→KJ,wpAny_load→L0,slot_list_setitem→LN,slot_dict_setitem→LO,slot_dict_getitem→LP,getMethod_builtin→LQ,entry_list_append→LR,codeAny_mono→LY,wpCode_mono→MW,wpAny_Slice→MX,choose→Qo
open PySem.Str renaming ofString→A8,casesOn→Fj
open _root_.Nat renaming le_trans→Aa,le_refl→Ak,lt_of_le_of_lt→AJ,zero_le→AM,le_of_lt→AU,lt_mul_div_succ→B1,not_lt_zero→Bj,mul_div_le→Br,lt_of_lt_of_le→Bt,lt_succ_self→Bx,le_of_ble_eq_true→BC,succ_pos→BK,ne_of_lt→BL,le_succ→BM,lt_irrefl→BO,lt_succ_of_lt→BW,ne_of_gt→Cc,lt_or_ge→Cy,succ_le_succ→CF,le_succ_of_le→CR,le_of_lt_succ→CS,not_lt→Dv,max→DG,lt_of_le_of_ne→DI,le_of_eq→DL,min_le_left→DO,lt_trichotomy→D_,not_succ_le_zero→E8,mod_lt→El,le_of_succ_le_succ→Fd,le_of_add_right_le→Fe,eq_of_beq_eq_true→Fw,le_max_right→FO,not_succ_le_self→G1,le_zero→G6,strongRecOn→Gd,le_max_left→Ge,add_sub_cancel'→Gm,lt_trans→Gs,exists_eq_add_of_le'→HA,succ_ne_self→I6,lt_add_of_pos_left→Iz,sub_eq_zero_of_le→J9,mul_le_mul_right→Jr,zero_ne_add_one→JX,mul_le_mul_left→JY,zero_add→L_,sub_self→M0,cast→M2,ble→M3,beq→M4,lt_of_not_le→ME,min_eq_left→N9,mod→OC,div→OD,blt→OE,mul_le_mul→OH
open _root_.List renaming mem_cons_self→Ab,mem_cons_of_mem→Af,length_map→Ag,getElem?_eq_getElem→Ah,range→Am,mem_singleton→Ao,mem_cons→Aq,getD_eq_getElem?_getD→Av,casesOn→Az,length_append→AC,size_toArray→AE,map_congr_left→AN,length_range→AO,length_cons→AQ,map_map→AW,mem_map→AZ,getElem?_eq_some_iff→A_,mem_append→B6,map_cons→B9,getElem?_map→Bc,not_mem_nil→Be,length_singleton→Bf,getElem?_eq_none→Bg,map_append→Bi,mem_map_of_mem→Bk,mem_range→BA,cons_lt_cons_iff→BD,filterMap_cons→BE,nodup_append→BJ,nodup_cons→BR,sum_cons→BX,getElem?_cons_zero→C7,getElem?_append_left→Ca,getD→Cd,pairwise_map→Cg,map_singleton→Cn,mem_filterMap→Co,getElem?_cons_succ→Cp,mem_of_getElem?→Cq,getElem?_append_right→Cu,replicate→Cw,drop_eq_getElem_cons→CB,getElem_mem→CG,eq_nil_of_length_eq_zero→CJ,nodup_nil→CN,toList_toArray→CW,zip_cons_cons→D7,getElem?_toArray→Db,append_nil→Di,length→Do,eraseIdxIfInBounds_toArray→Dr,getElem?_range→Dy,lookup_cons→DA,length_take→DB,map→DH,dropLast_concat_getLast→DM,mem_append_right→DV,getElem?_concat_length→DX,append_assoc→E0,length_erase_of_mem→EA,filterMap_cons_some→EB,length_set→ER,findIdx?_cons→EW,take_add_one→Fk,lt_irrefl→Fn,mem_iff_getElem?→Fv,take_length→FP,mem_of_mem_take→G2,mem_append_left→G3,getElem?_set_ne→G4,mem_filter→Gf,length_nil→Gg,findIdx?_eq_none_iff→GX,pairwise_iff_getElem→G_,cons_eq_cons→Hr,lookup→Hx,getElem?_take_of_lt→HB,map_take→HM,findIdx?→HO,nil_lt_cons→I7,length_drop→I8,nodup_range→I9,all_eq_true→Ia,length_eq_one_iff→Ir,length_pos_of_mem→IA,drop_eq_nil_of_le→IB,toArray→IK,sum_append→IQ,range_succ→IR,foldl_cons→IS,modify_succ_cons→J3,dropLast_eq_take→J5,mem_erase_of_ne→Js,length_eraseIdx→Jt,getLast?_concat→Ju,dropLast_concat→Jv,forIn_nil→JC,map_id→JP,length_pos_iff→JS,perm_singleton→JT,getElem_of_mem→JZ,map_drop→Kj,pairwise_cons→KC,find?_eq_none→KD,map_inj_right→KS,getElem?_drop→KT,filterMap_map→KU,push_toArray→LS,map_nil→M1,filter_cons→MC,mapIdx_cons→MF,ext_getElem→MG,of_mem_zip→Na,not_lt_nil→Nb,nil_append→Nc,forIn_cons→Nd,erase_cons→Nf,perm_cons→OI,drop_zero→OJ,lt_trans→P2,any_cons→P3,sum_nil→Qr
open _root_.Bool renaming and_eq_true_iff→Ae,false_ne_true→AD,casesOn→AX,false_eq_true→BN,and_eq_true→D1,noConfusion→Eo,or_eq_true_iff→Eu,false_and→GU,eq_false_iff→Hp,or_eq_true→IU,or_eq_false_iff→Jo,false_xor→JD,true_xor→Kk,not_eq_true'→LL,and_false→OF,not_true→OY,false_or→P5
open _root_.Option.some renaming inj→Ai,injEq→Bs
open PySem.Heap renaming get?_push_of_some→Aj,get?_push_size→Ar,lt_size→Ax,get?_update_self→AK,get?_update_other→B0,size_push→B3,SameBut→Cm,get?_none_of_le→Dj,ExtBut→F0
open _root_.And renaming intro→An
open _root_.Or renaming elim→Ap
open PySem.Heap.SameBut renaming update→Au,refl→LU
open PySem.Expr renaming casesOn→AA,Name→Ib
open _root_.False renaming elim→AF
open _root_.Array renaming getD_eq_getD_getElem?→AT,getElem?_eq_getElem→Bn,length_toList→BF,getD→Ct,getElem?_setIfInBounds→CT,getElem?_eq_some_iff→D5,getElem?_toList→DW,replicate→ET,getElem?_eq_none→Ff,perm_iff_toList_perm→GI,forIn_toList→GP,size_setIfInBounds→HG,getElem?_replicate→HH,getElem_of_mem→Jx,foldl_toList→KW,toList_inj→MD
open _root_.Int renaming natCast_nonneg→AY,toNat_natCast→B7,ofNat→BQ,ofNat_lt→C_,not_lt→EZ,ofNat_le→Fo,toNat→FY,add_zero→Gu,fmod_nonneg_of_pos→IC,sub_nonneg_of_le→Jw,mul_nonneg→OK,add_assoc→P4
open PySem.Obj renaming data_mapFields→Ba,mapFields→Bu,isFreed_of_fields→BB,mapSeq→BP,cls_mapFields→CQ,putSet→FX,putName→N1,data→OO
open PySem.NameKind renaming casesOn→Bd,free→FZ,cell→F_
open PySem.Value renaming none→Bl,ref→BY,casesOn→Ev,type→E_,builtin→OZ
open _root_.Option renaming casesOn→Bq,map_some→By,bind_some→D4,getD_some→FN,bind_eq_bind→Gl,isNone_iff_eq_none→GW,map_eq_some_iff→Iq,toList_some→KQ,isSome_none→KR,rec→OM,map→SB
open _root_.Eq renaming mp→C0
open _root_.Classical renaming byContradiction→Cb,em→Qs
open PySem.F renaming slot_dict_keyiterator_next→Ci,called_set→DK,args_tuple_add_2→Ez,slot_list_getattribute→EC,entry_tuple_add→EX,slot_tuple_add→Fc,slot_str_ascii_iterator_next→FG,args_dict_keyiterator_next_1→FH,entry_dict_keyiterator_next→G0,slot_list_getitem→Gi,slot_tuple_iterator_next→GK,slot_range_iterator_next→GN,excBase_Exception→GY,slot_dict_setdefault→GZ,slot_int_rmul→J2,slot_list_extend→J8,slot_tuple_getitem→Jn,slot_list_pop→KY,slot_dict_pop→KZ,slot_dict_get→K_,plain_list_iadd→LV,slot_dict_iter→MH,slot_set_iter→Ng,plain_set_new→Nh
open _root_.Int.ofNat renaming inj→Cj
open _root_.Ne renaming symm→Ck
open PySem.Around renaming under_plainId→Cr,frames_deeper→Jy
open _root_.List.Perm renaming refl→Cx,cons→Ea,swap→GT
open PySem.Code renaming quiet_builtin→CE,builtin→IL
open PySem.Calls renaming Name_function_global→CL,loadGlobal_global→DZ,loadGlobal_builtin→KG,evalArgs_plain→LW
open PySem.SetTable renaming grown→CM,toList_insertAt→Hz,slot→HL,advance→I3,fits→Kh,fill→Ki,sizeAbove→KN,has→LZ,relaid→N7
open PyProof.Rows.F renaming plain_set_update_loop→CV,entry_set_update_loop→Er
open PySem.Expr.Attribute renaming sizeOf_spec→D6
open PySem.UnaryOp renaming casesOn→Da
open PySem.Builtin.Slice renaming slicePlaces→De,sliceAdjust→Ep
open PySem.Keeper renaming boundFrame→Dl,machine→DD,frame→Fq
open PySem.Builtin.Tuple renaming tupleExact→Dq
open _root_.ForInStep renaming yield→DP
open PySem.BoolOp renaming casesOn→E7
open PySem.PyData renaming keyHash→E9,depthAll→EQ,depth→Gr,canLay0→GS,eqv→IN,eqvAll→O_,strOk→Qp
open _root_.LawfulBEq renaming eq_of_beq→Et
open PyProof.Rows renaming get?_update_seq→EP,joinParts_cons→JA,listUpdate_at→Ke,slot_tuple_getitem→KE,seqEpoch_at→MY
open PySem.W.KasT renaming kasWp_bind→ES
open PySem.Builtin.Str renaming occurrences→EY
open _root_.List.cons renaming sizeOf_spec→Fx,injEq→Gh,inj→HN
open PySem.Builtin.Dict_items renaming ownsTuple→G9
open PySem.Const renaming casesOn→Gj
open PySem.Expr.Subscript renaming sizeOf_spec→GO
open PySem.Expr.UnaryOp renaming sizeOf_spec→HD
open PySem.Expr.Compare renaming sizeOf_spec→HE
open PySem.Builtin.List renaming listTooLong→HF
open PySem.Shared renaming TypeIs→HK
open PySem.Expr.BoolOp renaming sizeOf_spec→I2
open PySem.SeqAt renaming neOverData→Iw,eqOverData→Ix
open PySem.Operator renaming casesOn→Iy
open PySem.Expr.Tuple renaming sizeOf_spec→ID
open PySem.Data.fields renaming inj→IT
open _root_.List.eraseDupsBy renaming loop→J4
open PySem.Expr.Call renaming sizeOf_spec→J6
open PySem.Builtin.Dict renaming showsAll→J7
open PySem.P renaming gt_int→JB,neg_int→N8,lt_int→OG
open PySem.CmpOp renaming casesOn→JW
open PySem.Builtin.Range renaming small→J_
open PySem.Builtin.Int renaming intBits→K0
open PySem.Stmt renaming casesOn→KO
open PySem.pickOrder renaming go→LX
open PySem.DictEntry renaming refKey→MI
open _root_.Array.Perm renaming trans→MJ
open PySem.W renaming plainGet_of→MZ,callWith_of→M_,codeRec_of→OL
open PySem.Comprehension.mk renaming sizeOf_spec→N4
open PySem.Builtin.Frozenset renaming updateFrom→N5,newClass→OB,slot0→PJ
open PySem.Value.ref renaming injEq→N6
open _root_.Prod.mk renaming injEq→P0
open _root_.Nat.succ renaming inj→Qq
open PySem.Heap.IsSliceOf renaming new→Sz
open PyProof.Rows.SortSt renaming mk'→SA
section
set_option backward.match.sparseCases true
open PySem PySem.W PyProof.Rows
set_option maxHeartbeats 8000000
section
local macro_rules |`(tactic|o_head $_)=>`(tactic|skip)
theorem M5 (h:PySem.Challenge.rw_pq0082_04.row.Holds):PySem.Challenge.rw_pq0082_04.row.Holds:=by
 k_head
 exact h
end
end
section
set_option compiler.extract_closed false
open Lean
def mqst (s:Syntax):Syntax:=s.replaceM (m:=Id) fun
 | .atom (.original ..) v=>some (.atom .none v)
 | .ident (.original ..) r v p=>some (.ident .none r v p)
 |_=>none
def mqor (s:Syntax):Bool:=match s.getHeadInfo with
 | .original .. =>true
 |_=>false
local macro_rules |`(command| $d:declaration)=>if mqor d.raw then pure (mqst d.raw) else Lean.Macro.throwUnsupported
def mqsN (k:String)(as:List Syntax):Syntax:= .node .none (`Lean.Parser++k.toName) as.toArray
def mqsA (s:String):Syntax:= .atom .none s
def mqsI (s:String):Syntax:= .ident .none s.toRawSubstring s.toName []
def mqsU (as:List Syntax):Syntax:= .node .none `null as.toArray
def mqmp (f:Syntax→Syntax):List Syntax→List Syntax
 |[]=>[]
 |a::l=>f a::mqmp f l
def mqms (f:String→Syntax):List String→List Syntax
 |[]=>[]
 |a::l=>f a::mqms f l
def mqsep (s:String):List Syntax→List Syntax
 |[]=>[]
 |[a]=>[a]
 |a::l=>a::mqsA s::mqsep s l
def mqsQ (ts:List Syntax):Syntax:=mqsN "Tactic.tacticSeq" [mqsN "Tactic.tacticSeq1Indented" [mqsU (mqsep ";" ts)]]
def mqtP (ts:List Syntax):Syntax:=mqsN "Tactic.paren" [mqsA "(",mqsQ ts,mqsA ")"]
def mqt1 (k w:String)(t:Syntax):Syntax:=mqsN k [mqsA w,t]
def mqtR (t:Syntax):Syntax:=mqt1 "Tactic.withReducible" "with_reducible" (mqsQ [t])
def mqtU (t:Syntax):Syntax:=mqt1 "Tactic.withUnfoldingAll" "with_unfolding_all" (mqsQ [t])
def mqtTry (t:Syntax):Syntax:=mqt1 "Tactic.tacticTry_" "try" (mqsQ [t])
def mqtRep (t:Syntax):Syntax:=mqt1 "Tactic.tacticRepeat_" "repeat" (mqsQ [t])
def mqtX (t:Syntax):Syntax:=mqt1 "Tactic.exact" "exact" t
def mqtF (t:Syntax):Syntax:=mqt1 "Tactic.refine" "refine" t
def mqtA (t:Syntax):Syntax:=mqt1 "Tactic.apply" "apply" t
def mqtRfl:Syntax:=mqsN "Tactic.tacticRfl" [mqsA "rfl"]
def mqalt (t:Syntax):Syntax:= .node .none groupKind #[mqsA "|",mqsQ [t]]
def mqtFst (ts:List Syntax):Syntax:=mqsN "Tactic.first" [mqsA "first",mqsU (mqmp mqalt ts)]
def mqap (f:Syntax)(as:List Syntax):Syntax:=mqsN "Term.app" [f,mqsU as]
def mqhol:Syntax:=mqsN "Term.syntheticHole" [mqsA "?",mqsA "_"]
def mqws (s:String):List String:=s.splitOn " "
def mqrwl:List Syntax→List Syntax
 |r::_::l=>r::mqrwl l
 |l=>l
def mqrw1 (r:Syntax):Syntax:=mqtR (mqtF (mqap (mqsI (if r[0].getNumArgs == 0 then"Mine.Internal.rwL" else"Mine.Internal.rwR")) [r[1],mqhol]))
def mqrwT (l:List Syntax):Syntax:=mqtP (mqmp mqrw1 (mqrwl l))
def mqgoX:Syntax:=mqsI "hx.t"
def mqrflX:Syntax:=mqtX (mqsI "rfl")
def mqgoT:Syntax:=mqtFst (mqms (fun n=>mqtP [mqtR (mqtA (mqap (mqsI n) [mqgoX])),mqrflX]) (mqws "go_S go_s go_q go_bq go_m go_f go_asG go_asW go_wt go_ho go_kw")++
 mqms (fun n=>mqtP [mqtR (mqtA (mqap (mqsI "go_b") [mqgoX,mqsI n])),mqrflX]) ["true","false"]++mqms (fun n=>mqtF (mqap (mqsI "go_b") [mqgoX,mqsI n,mqsI "rfl",mqhol])) ["true","false"]++mqms (fun n=>mqtF (mqap (mqsI n) [mqgoX,mqsI "rfl",mqhol])) ["go_kw"])
def mqhpT (l:List String):Syntax:=
 let f:=mqtFst (mqms (fun n=>mqtR (mqtX (mqsI n))) l++[mqtR (mqtX (mqap (mqsI "AH.set_self") [mqsN "Term.ellipsis" [mqsA ".."]]))])
 mqtFst (mqms (fun n=>mqtP [mqtR (mqtA (mqap (mqsI n) [mqgoX])),f,mqrflX]) ["go_hp","go_hq"]++mqms (fun n=>mqtP [mqtR (mqtA (mqsI "dn_b")),mqtA (mqap (mqsI "go_b") [mqgoX,mqsI n]),mqrflX]) ["true","false"]++
  [mqtP [mqtR (mqtA (mqap (mqsI "go_un") [mqgoX])),mqtRfl,mqtRfl,mqrflX],mqtP [mqtR (mqtA (mqap (mqsI "go_tt") [mqgoX])),mqrflX],mqtR (mqtA (mqsI "go_tl")),mqtR (mqtA (mqsI "go_cl"))])
def mqdnT:Syntax:=mqtFst (mqms (fun n=>mqtR (mqtA (mqsI n))) (mqws "dn_call dn_ret dn_b dn_itL dn_itT dn_app dn_lnL dn_icL dn_nxt dn_wn dn_os dn_ac dn_sp dn_ext dn_pop dn_sd dn_dp dn_itD dn_itS dn_siL dn_siD dn_lnT dn_soL dn_soS dn_sum dn_max dn_tup dn_set dn_dct dn_icD dn_foL dn_foD dn_inD dn_niD dn_slR dn_stF dn_stU dn_slW dn_neW dn_adT dn_adL dn_mu dn_muL dn_mod dn_eqT dn_neT dn_eqS dn_neS dn_eqL dn_neL dn_inS dn_rg1 dn_rg2 dn_abs dn_coT dn_coR dn_coS dn_foT dn_foR dn_nl dn_dic dn_wl dn_hp"))
def mqwalkT (l:List String):TSyntax `tactic:=⟨mqtP [mqtTry mqgoT,mqtRep (mqhpT l),mqtTry mqdnT,mqtTry (mqtX (mqsN "Term.anonymousCtor" [mqsA "⟨",mqsU (mqsep "," [mqsI "rfl",mqsI "rfl"]),mqsA "⟩"]))]⟩
def mqcL:List String:=mqws "A.c1 A.c2 A.c3 A.c4 A.c5 A.c6 A.c7 A.c8 A.c9 A.c10 A.c11 A.c12 A.c13 A.c14 A.c15"
def mqfnT (vs:List String):Syntax:=mqsN "Term.fun" [mqsA "fun",mqsN "Term.basicFun" [mqsU (mqms mqsI vs),mqsU [],mqsA "=>",mqsN "Term.byTactic" [mqsA "by",mqsQ [mqtU mqtRfl]]]]
def mqhbT:TSyntax `tactic:=⟨mqtFst [mqtX (mqap (mqsI "hb1") [mqfnT ["uu"]]),mqtX (mqap (mqsI "hb2") [mqfnT ["uu","uu"]]),mqtX (mqap (mqsI "hb3") [mqfnT ["uu","uu","uu"]]),mqtX (mqap (mqsI "hb4") [mqfnT ["uu","uu","uu","uu"]])]⟩
def mqszT:TSyntax `tactic:=⟨mqtP [mqtR (mqtF (mqap (mqsI "Mine.Internal.rwR") [mqsI "hn",mqhol])),mqtRep (mqtFst [mqtX (mqsI "z0"),mqtX (mqap (mqsI "z1") [mqsN "Term.byTactic" [mqsA "by",mqsQ [mqtRep (mqtFst [mqtX (mqsI "Nat.one_pos"),mqtA (mqsI "z3")])]]]),mqtA (mqsI "z2")])]⟩
def mqaR:Syntax:=mqsQ [mqtRfl]
def mqaK:Syntax:=mqsQ [.node .none `tacticKernel_rfl #[mqsA "kernel_rfl"]]
def mqor2 (s:Syntax):Bool:=(s[1].isOfKind ``Lean.Parser.Command.definition||s[1].isOfKind ``Lean.Parser.Command.abbrev)&&s[0][4].getNumArgs == 0&&mqor s
def mqnc (s:Syntax):Syntax:=if s[1].isOfKind ``Lean.Parser.Command.definition||s[1].isOfKind ``Lean.Parser.Command.abbrev then s.setArg 0 (s[0].setArg 4 (.node .none `null #[.node .none ``Lean.Parser.Command.noncomputable #[.atom .none "noncomputable"]])) else s
end
local macro_rules |`(command| $d:declaration)=>if mqor d.raw then pure (mqst (mqnc d.raw)) else Lean.Macro.throwUnsupported
universe u u1 u2 u3 u4 u5 u6
@[elab_as_elim] theorem rwL {α:Sort u}{a b:α}{p:α→Prop}(h:a=b)(x:p b):p a:=h▸x
@[elab_as_elim] theorem rwR {α:Sort u}{a b:α}{p:α→Prop}(h:b=a)(x:p b):p a:=h▸x
theorem CC {α:Type u}{x:α}{P:Prop}(h:none=some x):P:=nomatch h
theorem HJ {α:Type u}{x:α}{P:Prop}(h:some x=none):P:=nomatch h
theorem FI {P:Prop}(h:false=true):P:=nomatch h
theorem aZ {P:Prop}(h:true=false):P:=nomatch h
theorem Aw {A B:Prop}{G:Prop}(h:A∧B)(k:A→B→G):G:=k (h.1) h.2
theorem DF {A B C:Prop}{G:Prop}(h:A∧B∧C)(k:A→B→C→G):G:=k (h.1) (h.2.1) h.2.2
theorem M6 {A B C D:Prop}{G:Prop}(h:A∧B∧C∧D)(k:A→B→C→D→G):G:=k (h.1) (h.2.1) (h.2.2.1) h.2.2.2
theorem Eb {A B C D I:Prop}{G:Prop}(h:A∧B∧C∧D∧I)(k:A→B→C→D→I→G):G:=k (h.1) (h.2.1) (h.2.2.1) (h.2.2.2.1) h.2.2.2.2
theorem AI {α:Sort u1}{A:α→Prop}{G:Prop}(h:∃x,A x)(k:∀x,A x→G):G:=h.elim fun x h=>k x h
theorem AB {α:Sort u1}{A B:α→Prop}{G:Prop}(h:∃x,A x∧B x)(k:∀x,A x→B x→G):G:=h.elim fun x h=>k x (h.1) h.2
theorem CP {α:Sort u1}{A B C:α→Prop}{G:Prop}(h:∃x,A x∧B x∧C x)(k:∀x,A x→B x→C x→G):G:=h.elim fun x h=>k x (h.1) (h.2.1) h.2.2
theorem L6 {α:Sort u1}{A B C D:α→Prop}{G:Prop}(h:∃x,A x∧B x∧C x∧D x)(k:∀x,A x→B x→C x→D x→G):G:=h.elim fun x h=>k x (h.1) (h.2.1) (h.2.2.1) h.2.2.2
theorem Rq {α:Sort u1}{A B C D I:α→Prop}{G:Prop}(h:∃x,A x∧B x∧C x∧D x∧I x)(k:∀x,A x→B x→C x→D x→I x→G):G:=h.elim fun x h=>k x (h.1) (h.2.1) (h.2.2.1) (h.2.2.2.1) h.2.2.2.2
theorem XW {α:Sort u1}{A B C D I J K L:α→Prop}{G:Prop}(h:∃x,A x∧B x∧C x∧D x∧I x∧J x∧K x∧L x)(k:∀x,A x→B x→C x→D x→I x→J x→K x→L x→G):G:=h.elim fun x h=>k x (h.1) (h.2.1) (h.2.2.1) (h.2.2.2.1) (h.2.2.2.2.1) (h.2.2.2.2.2.1) (h.2.2.2.2.2.2.1) h.2.2.2.2.2.2.2
theorem IV {α:Sort u1}{β:Sort u2}{A:α→β→Prop}{G:Prop}(h:∃x y,A x y)(k:∀x y,A x y→G):G:=h.elim fun x h=>h.elim fun y h=>k x y h
theorem BT {α:Sort u1}{β:Sort u2}{A B:α→β→Prop}{G:Prop}(h:∃x y,A x y∧B x y)(k:∀x y,A x y→B x y→G):G:=h.elim fun x h=>h.elim fun y h=>k x y (h.1) h.2
theorem Cv {α:Sort u1}{β:Sort u2}{A B C:α→β→Prop}{G:Prop}(h:∃x y,A x y∧B x y∧C x y)(k:∀x y,A x y→B x y→C x y→G):G:=h.elim fun x h=>h.elim fun y h=>k x y (h.1) (h.2.1) h.2.2
theorem IW {α:Sort u1}{β:Sort u2}{A B C D:α→β→Prop}{G:Prop}(h:∃x y,A x y∧B x y∧C x y∧D x y)(k:∀x y,A x y→B x y→C x y→D x y→G):G:=h.elim fun x h=>h.elim fun y h=>k x y (h.1) (h.2.1) (h.2.2.1) h.2.2.2
theorem L8 {α:Sort u1}{β:Sort u2}{A B C D I:α→β→Prop}{G:Prop}(h:∃x y,A x y∧B x y∧C x y∧D x y∧I x y)(k:∀x y,A x y→B x y→C x y→D x y→I x y→G):G:=h.elim fun x h=>h.elim fun y h=>k x y (h.1) (h.2.1) (h.2.2.1) (h.2.2.2.1) h.2.2.2.2
theorem Rr {α:Sort u1}{β:Sort u2}{A B C D I J:α→β→Prop}{G:Prop}(h:∃x y,A x y∧B x y∧C x y∧D x y∧I x y∧J x y)(k:∀x y,A x y→B x y→C x y→D x y→I x y→J x y→G):G:=h.elim fun x h=>h.elim fun y h=>k x y (h.1) (h.2.1) (h.2.2.1) (h.2.2.2.1) (h.2.2.2.2.1) h.2.2.2.2.2
theorem L9 {α:Sort u1}{β:Sort u2}{A B C D I J K:α→β→Prop}{G:Prop}(h:∃x y,A x y∧B x y∧C x y∧D x y∧I x y∧J x y∧K x y)(k:∀x y,A x y→B x y→C x y→D x y→I x y→J x y→K x y→G):G:=h.elim fun x h=>h.elim fun y h=>k x y (h.1) (h.2.1) (h.2.2.1) (h.2.2.2.1) (h.2.2.2.2.1) (h.2.2.2.2.2.1) h.2.2.2.2.2.2
theorem XX {α:Sort u1}{β:Sort u2}{γ:Sort u3}{A:α→β→γ→Prop}{G:Prop}(h:∃x y z,A x y z)(k:∀x y z,A x y z→G):G:=h.elim fun x h=>h.elim fun y h=>h.elim fun z h=>k x y z h
theorem M7 {α:Sort u1}{β:Sort u2}{γ:Sort u3}{A B:α→β→γ→Prop}{G:Prop}(h:∃x y z,A x y z∧B x y z)(k:∀x y z,A x y z→B x y z→G):G:=h.elim fun x h=>h.elim fun y h=>h.elim fun z h=>k x y z (h.1) h.2
theorem Qt {α:Sort u1}{β:Sort u2}{γ:Sort u3}{A B C:α→β→γ→Prop}{G:Prop}(h:∃x y z,A x y z∧B x y z∧C x y z)(k:∀x y z,A x y z→B x y z→C x y z→G):G:=h.elim fun x h=>h.elim fun y h=>h.elim fun z h=>k x y z (h.1) (h.2.1) h.2.2
theorem Wv {α:Sort u1}{β:Sort u2}{γ:Sort u3}{A B C D:α→β→γ→Prop}{G:Prop}(h:∃x y z,A x y z∧B x y z∧C x y z∧D x y z)(k:∀x y z,A x y z→B x y z→C x y z→D x y z→G):G:=h.elim fun x h=>h.elim fun y h=>h.elim fun z h=>k x y z (h.1) (h.2.1) (h.2.2.1) h.2.2.2
theorem Ux {α:Sort u1}{β:Sort u2}{γ:Sort u3}{A B C D I:α→β→γ→Prop}{G:Prop}(h:∃x y z,A x y z∧B x y z∧C x y z∧D x y z∧I x y z)(k:∀x y z,A x y z→B x y z→C x y z→D x y z→I x y z→G):G:=h.elim fun x h=>h.elim fun y h=>h.elim fun z h=>k x y z (h.1) (h.2.1) (h.2.2.1) (h.2.2.2.1) h.2.2.2.2
theorem Tq {α:Sort u1}{β:Sort u2}{γ:Sort u3}{A B C D I J:α→β→γ→Prop}{G:Prop}(h:∃x y z,A x y z∧B x y z∧C x y z∧D x y z∧I x y z∧J x y z)(k:∀x y z,A x y z→B x y z→C x y z→D x y z→I x y z→J x y z→G):G:=h.elim fun x h=>h.elim fun y h=>h.elim fun z h=>k x y z (h.1) (h.2.1) (h.2.2.1) (h.2.2.2.1) (h.2.2.2.2.1) h.2.2.2.2.2
theorem Zn {α:Sort u1}{β:Sort u2}{γ:Sort u3}{δ:Sort u4}{A:α→β→γ→δ→Prop}{G:Prop}(h:∃x y z u,A x y z u)(k:∀x y z u,A x y z u→G):G:=h.elim fun x h=>h.elim fun y h=>h.elim fun z h=>h.elim fun u h=>k x y z u h
theorem Tr {α:Sort u1}{β:Sort u2}{γ:Sort u3}{δ:Sort u4}{A B:α→β→γ→δ→Prop}{G:Prop}(h:∃x y z u,A x y z u∧B x y z u)(k:∀x y z u,A x y z u→B x y z u→G):G:=h.elim fun x h=>h.elim fun y h=>h.elim fun z h=>h.elim fun u h=>k x y z u (h.1) h.2
theorem Ww {α:Sort u1}{β:Sort u2}{γ:Sort u3}{δ:Sort u4}{A B C:α→β→γ→δ→Prop}{G:Prop}(h:∃x y z u,A x y z u∧B x y z u∧C x y z u)(k:∀x y z u,A x y z u→B x y z u→C x y z u→G):G:=h.elim fun x h=>h.elim fun y h=>h.elim fun z h=>h.elim fun u h=>k x y z u (h.1) (h.2.1) h.2.2
theorem Zo {α:Sort u1}{β:Sort u2}{γ:Sort u3}{δ:Sort u4}{A B C D:α→β→γ→δ→Prop}{G:Prop}(h:∃x y z u,A x y z u∧B x y z u∧C x y z u∧D x y z u)(k:∀x y z u,A x y z u→B x y z u→C x y z u→D x y z u→G):G:=h.elim fun x h=>h.elim fun y h=>h.elim fun z h=>h.elim fun u h=>k x y z u (h.1) (h.2.1) (h.2.2.1) h.2.2.2
theorem XY {α:Sort u1}{β:Sort u2}{γ:Sort u3}{δ:Sort u4}{A B C D I:α→β→γ→δ→Prop}{G:Prop}(h:∃x y z u,A x y z u∧B x y z u∧C x y z u∧D x y z u∧I x y z u)(k:∀x y z u,A x y z u→B x y z u→C x y z u→D x y z u→I x y z u→G):G:=h.elim fun x h=>h.elim fun y h=>h.elim fun z h=>h.elim fun u h=>k x y z u (h.1) (h.2.1) (h.2.2.1) (h.2.2.2.1) h.2.2.2.2
theorem Zp {α:Sort u1}{β:Sort u2}{γ:Sort u3}{δ:Sort u4}{ε:Sort u5}{A:α→β→γ→δ→ε→Prop}{G:Prop}(h:∃x y z u v,A x y z u v)(k:∀x y z u v,A x y z u v→G):G:=h.elim fun x h=>h.elim fun y h=>h.elim fun z h=>h.elim fun u h=>h.elim fun v h=>k x y z u v h
theorem Zq {α:Sort u1}{β:Sort u2}{γ:Sort u3}{δ:Sort u4}{ε:Sort u5}{A B:α→β→γ→δ→ε→Prop}{G:Prop}(h:∃x y z u v,A x y z u v∧B x y z u v)(k:∀x y z u v,A x y z u v→B x y z u v→G):G:=h.elim fun x h=>h.elim fun y h=>h.elim fun z h=>h.elim fun u h=>h.elim fun v h=>k x y z u v (h.1) h.2
theorem Wx {α:Sort u1}{β:Sort u2}{A:α→β→Prop}(x:α)(y:β)(a:A x y):∃x y,A x y:=⟨x,y,a⟩
theorem Gn {α:Sort u1}{β:Sort u2}{A B:α→β→Prop}(x:α)(y:β)(a:A x y)(b:B x y):∃x y,A x y∧B x y:=⟨x,y,a,b⟩
theorem FQ {α:Sort u1}{β:Sort u2}{A B C:α→β→Prop}(x:α)(y:β)(a:A x y)(b:B x y)(c:C x y):∃x y,A x y∧B x y∧C x y:=⟨x,y,a,b,c⟩
theorem bu {α:Sort u1}{β:Sort u2}{A B C D:α→β→Prop}(x:α)(y:β)(a:A x y)(b:B x y)(c:C x y)(d:D x y):∃x y,A x y∧B x y∧C x y∧D x y:=⟨x,y,a,b,c,d⟩
theorem Tt {α:Sort u1}{β:Sort u2}{A B C D F:α→β→Prop}(x:α)(y:β)(a:A x y)(b:B x y)(c:C x y)(d:D x y)(f:F x y):∃x y,A x y∧B x y∧C x y∧D x y∧F x y:=⟨x,y,a,b,c,d,f⟩
theorem Uy {α:Sort u1}{β:Sort u2}{A B C D F I:α→β→Prop}(x:α)(y:β)(a:A x y)(b:B x y)(c:C x y)(d:D x y)(f:F x y)(i:I x y):∃x y,A x y∧B x y∧C x y∧D x y∧F x y∧I x y:=⟨x,y,a,b,c,d,f,i⟩
theorem Ic {α:Sort u1}{β:Sort u2}{A B C D F I J:α→β→Prop}(x:α)(y:β)(a:A x y)(b:B x y)(c:C x y)(d:D x y)(f:F x y)(i:I x y)(j:J x y):∃x y,A x y∧B x y∧C x y∧D x y∧F x y∧I x y∧J x y:=⟨x,y,a,b,c,d,f,i,j⟩
theorem bv {α:Sort u1}{β:Sort u2}{γ:Sort u3}{A:α→β→γ→Prop}(x:α)(y:β)(z:γ)(a:A x y z):∃x y z,A x y z:=⟨x,y,z,a⟩
theorem bw {α:Sort u1}{β:Sort u2}{γ:Sort u3}{A B:α→β→γ→Prop}(x:α)(y:β)(z:γ)(a:A x y z)(b:B x y z):∃x y z,A x y z∧B x y z:=⟨x,y,z,a,b⟩
theorem bz {α:Sort u1}{β:Sort u2}{γ:Sort u3}{A B C:α→β→γ→Prop}(x:α)(y:β)(z:γ)(a:A x y z)(b:B x y z)(c:C x y z):∃x y z,A x y z∧B x y z∧C x y z:=⟨x,y,z,a,b,c⟩
theorem bA {α:Sort u1}{β:Sort u2}{γ:Sort u3}{A B C D:α→β→γ→Prop}(x:α)(y:β)(z:γ)(a:A x y z)(b:B x y z)(c:C x y z)(d:D x y z):∃x y z,A x y z∧B x y z∧C x y z∧D x y z:=⟨x,y,z,a,b,c,d⟩
theorem bB {α:Sort u1}{β:Sort u2}{γ:Sort u3}{A B C D F I:α→β→γ→Prop}(x:α)(y:β)(z:γ)(a:A x y z)(b:B x y z)(c:C x y z)(d:D x y z)(f:F x y z)(i:I x y z):∃x y z,A x y z∧B x y z∧C x y z∧D x y z∧F x y z∧I x y z:=⟨x,y,z,a,b,c,d,f,i⟩
theorem Zr {α:Sort u1}{β:Sort u2}{γ:Sort u3}{A B C D F I J K:α→β→γ→Prop}(x:α)(y:β)(z:γ)(a:A x y z)(b:B x y z)(c:C x y z)(d:D x y z)(f:F x y z)(i:I x y z)(j:J x y z)(k:K x y z):∃x y z,A x y z∧B x y z∧C x y z∧D x y z∧F x y z∧I x y z∧J x y z∧K x y z:=⟨x,y,z,a,b,c,d,f,i,j,k⟩
theorem bC {α:Sort u1}{β:Sort u2}{γ:Sort u3}{δ:Sort u4}{A:α→β→γ→δ→Prop}(x:α)(y:β)(z:γ)(v:δ)(a:A x y z v):∃x y z v,A x y z v:=⟨x,y,z,v,a⟩
theorem Zs {α:Sort u1}{β:Sort u2}{γ:Sort u3}{δ:Sort u4}{A B:α→β→γ→δ→Prop}(x:α)(y:β)(z:γ)(v:δ)(a:A x y z v)(b:B x y z v):∃x y z v,A x y z v∧B x y z v:=⟨x,y,z,v,a,b⟩
theorem bD {α:Sort u1}{β:Sort u2}{γ:Sort u3}{δ:Sort u4}{A B C:α→β→γ→δ→Prop}(x:α)(y:β)(z:γ)(v:δ)(a:A x y z v)(b:B x y z v)(c:C x y z v):∃x y z v,A x y z v∧B x y z v∧C x y z v:=⟨x,y,z,v,a,b,c⟩
theorem bE {α:Sort u1}{β:Sort u2}{γ:Sort u3}{δ:Sort u4}{A B C D F:α→β→γ→δ→Prop}(x:α)(y:β)(z:γ)(v:δ)(a:A x y z v)(b:B x y z v)(c:C x y z v)(d:D x y z v)(f:F x y z v):∃x y z v,A x y z v∧B x y z v∧C x y z v∧D x y z v∧F x y z v:=⟨x,y,z,v,a,b,c,d,f⟩
@[elab_as_elim] theorem IX {α:Type u}{β:Type u1}{f:α→β}{l:List α}{x:β}{P:β→Prop}(h:x∈l.map f)(k:∀a,a∈l→P (f a)):P x:=(AZ.mp h).elim fun a e=>e.2▸k a e.1
section
inductive Tm where
 |v (i:Nat)|n (k:Nat)|a (x y:Tm)|s (x y:Tm)|m (k:Nat)(x:Tm)|r (x:Tm)(k:Nat)|mi (x y:Tm)|ma (x y:Tm)
inductive Pr where
 |le (x y:Tm)|eq (x y:Tm)|im (p q:Pr)|an (p q:Pr)|or (p q:Pr)|ff
def bF:List Nat→Nat→Nat
 |[],_=>0
 |x::_,0=>x
 |_::l,i+1=>bF l i
def Tm.d (c:List Nat):Tm→Nat
 | .v i=>bF c i
 | .n k=>k
 | .a x y=>x.d c+y.d c
 | .s x y=>x.d c-y.d c
 | .m k x=>k*x.d c
 | .r x k=>x.d c*k
 | .mi x y=>min (x.d c) (y.d c)
 | .ma x y=>max (x.d c) (y.d c)
def Pr.d (c:List Nat):Pr→Prop
 | .le x y=>x.d c≤y.d c
 | .eq x y=>x.d c=y.d c
 | .im p q=>p.d c→q.d c
 | .an p q=>p.d c∧q.d c
 | .or p q=>p.d c∨q.d c
 | .ff=>False
abbrev Lf:=List Int
def ev:Lf→List Nat→Int
 |k::l,x::c=>k*x+ev l c
 |_,_=>0
def Nn:Lf→Lf→Lf
 |x::a,y::b=>(x+y)::Nn a b
 |[],b=>b
 |a,[]=>a
def OP (k:Int):Lf→Lf
 |[]=>[]
 |x::l=>(k*x)::OP k l
def Uz:Nat→Lf
 |0=>[1]
 |i+1=>0::Uz i
def Ie (a b:Lf):Lf:=Nn a (OP (-1) b)
theorem La:∀(a b:Lf) (c:List Nat),ev (Nn a b) c=ev a c+ev b c
 |x::a,y::b,z::c=>by
  show(x+y)*z+ev (Nn a b) c=x*z+ev a c+(y*z+ev b c)
  rw[La a b c,Int.add_mul,P4,P4,Int.add_left_comm (y*z)]
 |_::_,_::_,[]=>rfl
 |[],b,c=>(Int.zero_add _).symm
 |_::_,[],c=>(Gu _).symm
theorem JE (k:Int):∀(a:Lf) (c:List Nat),ev (OP k a) c=k*ev a c
 |x::a,z::c=>by
  show k*x*z+ev (OP k a) c=k*(x*z+ev a c)
  rw[JE k a c,Int.mul_add,Int.mul_assoc]
 |[],_=>(Int.mul_zero _).symm
 |_::_,[]=>(Int.mul_zero _).symm
theorem Lb (a b:Lf)(c:List Nat):ev (Ie a b) c=ev a c-ev b c:=by
 unfold Ie
 rw[La,JE,Int.neg_one_mul]
 rfl
theorem PK:∀(i:Nat) (c:List Nat),ev (Uz i) c=(bF c i:Int)
 |0,x::c=>by show 1*(x:Int)+ev [] c=x;rw[Int.one_mul];exact Gu _
 |0,[]=>rfl
 |i+1,x::c=>by show 0*(x:Int)+ev (Uz i) c=_;rw[Int.zero_mul,Int.zero_add];exact PK i c
 |i+1,[]=>rfl
def Tm.k:Tm→List Lf→(List Lf→Lf→Bool)→Bool
 | .v i,cs,κ=>κ cs (Uz (i+1))
 | .n k,cs,κ=>κ cs [(k:Int)]
 | .a x y,cs,κ=>x.k cs fun cs l=>y.k cs fun cs m=>κ cs (Nn l m)
 | .s x y,cs,κ=>x.k cs fun cs l=>y.k cs fun cs m=>κ (Ie l m::cs) (Ie l m)&&κ (Ie m l::cs) []
 | .m j x,cs,κ=>x.k cs fun cs l=>κ cs (OP j l)
 | .r x j,cs,κ=>x.k cs fun cs l=>κ cs (OP j l)
 | .mi x y,cs,κ=>x.k cs fun cs l=>y.k cs fun cs m=>κ (Ie l m::cs) m&&κ (Ie m l::cs) l
 | .ma x y,cs,κ=>x.k cs fun cs l=>y.k cs fun cs m=>κ (Ie l m::cs) l&&κ (Ie m l::cs) m
def Pr.k:Pr→Bool→List Lf→(List Lf→Bool)→Bool
 | .le x y,true,cs,κ=>x.k cs fun cs l=>y.k cs fun cs m=>κ (Ie m l::cs)
 | .le x y,false,cs,κ=>x.k cs fun cs l=>y.k cs fun cs m=>κ (Nn [-1] (Ie l m)::cs)
 | .eq x y,true,cs,κ=>x.k cs fun cs l=>y.k cs fun cs m=>κ (Ie m l::Ie l m::cs)
 | .eq x y,false,cs,κ=>x.k cs fun cs l=>y.k cs fun cs m=>κ (Nn [-1] (Ie l m)::cs)&&κ (Nn [-1] (Ie m l)::cs)
 | .im p q,true,cs,κ=>p.k false cs κ&&q.k true cs κ
 | .im p q,false,cs,κ=>p.k true cs fun cs=>q.k false cs κ
 | .an p q,true,cs,κ=>p.k true cs fun cs=>q.k true cs κ
 | .an p q,false,cs,κ=>p.k false cs κ&&q.k false cs κ
 | .or p q,true,cs,κ=>p.k true cs κ&&q.k true cs κ
 | .or p q,false,cs,κ=>p.k false cs fun cs=>q.k false cs κ
 | .ff,true,_,_=>true
 | .ff,false,cs,κ=>κ cs
def pos:Int→Bool
 | .ofNat (_+1)=>true
 |_=>false
def Xp:Int→Bool
 | .negSucc _=>true
 |_=>false
def eA:Int→Bool
 | .ofNat 0=>true
 |_=>false
def co:Lf→Nat→Int
 |[],_=>0
 |x::_,0=>x
 |_::l,i+1=>co l i
def Rs (i:Nat)(p:Lf):List Lf→List Lf→List Lf
 |[],r=>r
 |q::cs,r=>bif Xp (co q i) then Nn (OP (-co q i) p) (OP (co p i) q)::Rs i p cs r else Rs i p cs r
def elim (i:Nat)(all:List Lf):List Lf→List Lf
 |[]=>[]
 |p::cs=>bif pos (co p i) then Rs i p all (elim i all cs) else bif Xp (co p i) then elim i all cs else p::elim i all cs
def XZ:Lf→Bool
 |[]=>true
 |x::l=>eA x&&XZ l
def a_:List Lf→Bool
 |[]=>false
 |l::cs=>(match l with|[]=>false|x::l=>Xp x&&XZ l)||a_ cs
def Rt:Nat→List Lf→Bool
 |0,cs=>a_ cs
 |n+1,cs=>a_ cs||Rt n (elim (n+1) cs cs)
def units:Nat→List Lf
 |0=>[]
 |n+1=>Uz (n+1)::units n
section
variable {c:List Nat}
def Hd (c:List Nat)(cs:List Lf):Prop:=∀f∈cs,0≤ev f (1::c)
theorem Hd.cons {f:Lf}{cs:List Lf}(h:0≤ev f (1::c))(hs:Hd c cs):Hd c (f::cs):=fun uu m=>(Aq.mp m).elim (fun e=>e▸h) (hs _)
theorem UA (k:Int):ev [k] (1::c)=k:=(Gu _).trans (Int.mul_one k)
theorem UB {x y:Nat}(h:x≤y):0≤(y:Int) -x:=Jw (Fo.mpr h)
theorem X_ {x y z:Nat}{l m a b:Lf}{cs:List Lf}{κ:List Lf→Lf→Bool}(h:(κ (Ie l m::cs) a&&κ (Ie m l::cs) b)=true)(hs:Hd c cs)(e:(x:Int)=ev l (1::c))(e2:(y:Int)=ev m (1::c))
  (ha:y≤x→(z:Int)=ev a (1::c))(hb:x≤y→(z:Int)=ev b (1::c))(k:∀cs' l,κ cs' l=true→Hd c cs'→(z:Int)=ev l (1::c)→False):False:=by
 have h:=Ae.mp h
 rcases Nat.le_total y x with q|q
 ·exact k _ _ h.1 (hs.cons (by rw[Lb, ←e, ←e2];exact UB q)) (ha q)
 ·exact k _ _ h.2 (hs.cons (by rw[Lb, ←e, ←e2];exact UB q)) (hb q)
theorem Tm.ok:∀(t:Tm) (cs:List Lf) (κ:List Lf→Lf→Bool),t.k cs κ=true→Hd c cs→(∀cs' l,κ cs' l=true→Hd c cs'→(t.d c:Int)=ev l (1::c)→False)→False
 | .v i,cs,κ,h,hs,k=>k cs _ h hs (PK (i+1) (1::c)).symm
 | .n j,cs,κ,h,hs,k=>k cs _ h hs (UA _).symm
 | .a x y,cs,κ,h,hs,k=>x.ok cs _ h hs fun cs l h hs e=>y.ok cs _ h hs fun cs m h hs e2=>k cs _ h hs (by rw[La, ←e, ←e2];rfl)
 | .s x y,cs,κ,h,hs,k=>x.ok cs _ h hs fun cs l h hs e=>y.ok cs _ h hs fun cs m h hs e2=>X_ h hs e e2 (fun q=>by rw[Lb, ←e, ←e2];exact Int.ofNat_sub q) (fun q=>congrArg M2 (J9 q)) k
 | .m j x,cs,κ,h,hs,k=>x.ok cs _ h hs fun cs l h hs e=>k cs _ h hs (by rw[JE, ←e];rfl)
 | .r x j,cs,κ,h,hs,k=>x.ok cs _ h hs fun cs l h hs e=>k cs _ h hs (by rw[JE, ←e];exact Int.mul_comm (x.d c:Int) j)
 | .mi x y,cs,κ,h,hs,k=>x.ok cs _ h hs fun cs l h hs e=>y.ok cs _ h hs fun cs m h hs e2=>X_ h hs e e2 (fun q=>e2▸congrArg M2 (Nat.min_eq_right q)) (fun q=>e▸congrArg M2 (N9 q)) k
 | .ma x y,cs,κ,h,hs,k=>x.ok cs _ h hs fun cs l h hs e=>y.ok cs _ h hs fun cs m h hs e2=>X_ h hs e e2 (fun q=>e▸congrArg M2 (Nat.max_eq_left q)) (fun q=>e2▸congrArg M2 (Nat.max_eq_right q)) k
theorem two {x y:Tm}{cs:List Lf}{κ:List Lf→Lf→Lf→Bool}(h:(x.k cs fun cs l=>y.k cs fun cs m=>κ cs l m)=true)(hs:Hd c cs)(k:∀cs l m,κ cs l m=true→Hd c cs→ev (Ie l m) (1::c)=(x.d c:Int) -y.d c→ev (Ie m l) (1::c)=(y.d c:Int) -x.d c→False):False:=
 x.ok cs _ h hs fun cs l h hs e=>y.ok cs _ h hs fun cs m h hs e2=>k cs l m h hs (by rw[Lb, ←e, ←e2]) (by rw[Lb, ←e, ←e2])
theorem Y0 {x y:Nat}{l:Lf}(e:ev l (1::c)=(x:Int) -y)(h:y<x):0≤ev (Nn [-1] l) (1::c):=by
 rw[La,UA,e,Int.add_comm]
 exact Jw (Int.le_sub_left_of_add_le (Fo.mpr h))
def Pr.at (c:List Nat)(p:Pr):Bool→Prop
 |true=>p.d c
 |false=>¬p.d c
theorem Pr.ok:∀(p:Pr) (b:Bool) (cs:List Lf) (κ:List Lf→Bool),p.k b cs κ=true→Hd c cs→p.at c b→(∀cs',κ cs'=true→Hd c cs'→False)→False
 | .le x y,true,cs,κ,h,hs,t,k=>two h hs fun cs l m h hs e e2=>k _ h (hs.cons (by rw[e2];exact UB t))
 | .le x y,false,cs,κ,h,hs,t,k=>two h hs fun cs l m h hs e e2=>k _ h (hs.cons (Y0 e (ME t)))
 | .eq x y,true,cs,κ,h,hs,t,k=>two h hs fun cs l m h hs e e2=>k _ h ((hs.cons (by rw[e];exact UB (DL (Eq.symm t)))).cons (by rw[e2];exact UB (DL t)))
 | .eq x y,false,cs,κ,h,hs,t,k=>two h hs fun cs l m h hs e e2=>(Nat.lt_or_gt_of_ne t).elim (fun z=>k _ (Ae.mp h).2 (hs.cons (Y0 e2 z))) fun z=>k _ (Ae.mp h).1 (hs.cons (Y0 e z))
 | .im p q,true,cs,κ,h,hs,t,k=>(Qs (p.d c)).elim (fun z=>q.ok true cs κ (Ae.mp h).2 hs (t z) k) fun z=>p.ok false cs κ (Ae.mp h).1 hs z k
 | .im p q,false,cs,κ,h,hs,t,k=>p.ok true cs _ h hs (Cb fun z=>t fun y=>absurd y z) fun cs h hs=>q.ok false cs κ h hs (fun z=>t fun uu=>z) k
 | .an p q,true,cs,κ,h,hs,t,k=>p.ok true cs _ h hs t.1 fun cs h hs=>q.ok true cs κ h hs t.2 k
 | .an p q,false,cs,κ,h,hs,t,k=>(Qs (p.d c)).elim (fun z=>q.ok false cs κ (Ae.mp h).2 hs (fun y=>t ⟨z,y⟩) k) fun z=>p.ok false cs κ (Ae.mp h).1 hs z k
 | .or p q,true,cs,κ,h,hs,t,k=>t.elim (fun z=>p.ok true cs κ (Ae.mp h).1 hs z k) fun z=>q.ok true cs κ (Ae.mp h).2 hs z k
 | .or p q,false,cs,κ,h,hs,t,k=>p.ok false cs _ h hs (fun z=>t (.inl z)) fun cs h hs=>q.ok false cs κ h hs (fun z=>t (.inr z)) k
 | .ff,true,cs,κ,h,hs,t,k=>t
 | .ff,false,cs,κ,h,hs,t,k=>k cs h hs
theorem Y1:∀{x:Int},pos x=true→0≤x
 | .ofNat _,_=>AY _
theorem UC:∀{x:Int},Xp x=true→x<0
 | .negSucc n,_=>Int.negSucc_lt_zero n
theorem SD {i:Nat}{p:Lf}(hp:0≤ev p (1::c))(pp:0≤co p i):∀(cs r:List Lf),Hd c cs→Hd c r→Hd c (Rs i p cs r)
 |[],r,_,hr=>hr
 |q::cs,r,hs,hr=>by
  have ih:=SD hp pp cs r (fun f m=>hs f (Af _ m)) hr
  refine(?_:Hd c (bif Xp (co q i) then Nn (OP (-co q i) p) (OP (co p i) q)::Rs i p cs r else Rs i p cs r))
  cases z:Xp (co q i) with
  |false=>exact ih
  |true=>
   refine ih.cons ?_
   rw[La,JE,JE]
   exact Int.add_nonneg (OK (Int.neg_nonneg_of_nonpos (Int.le_of_lt (UC z))) hp) (OK pp (hs q Ab))
theorem SE {i:Nat}{all:List Lf}(ha:Hd c all):∀(cs:List Lf),Hd c cs→Hd c (elim i all cs)
 |[],h=>h
 |p::cs,h=>by
  have ih:=SE ha cs (fun f m=>h f (Af _ m)) (i:=i)
  have hp:=h p Ab
  refine(?_:Hd c (bif pos (co p i) then Rs i p all (elim i all cs) else bif Xp (co p i) then elim i all cs else p::elim i all cs))
  cases z:pos (co p i) with
  |true=>exact SD hp (Y1 z) all _ ha ih
  |false=>
   cases Xp (co p i) with
   |true=>exact ih
   |false=>exact ih.cons hp
theorem SF:∀(l:Lf) (c:List Nat),XZ l=true→ev l c=0
 |[],_,_=>rfl
 |_::_,[],_=>rfl
 |x::l,y::c,h=>by
  have h:=Ae.mp h
  show x*y+ev l c=0
  rw[SF l c h.2]
  match x,h.1 with
  | .ofNat 0,_=>rw[show(BQ 0)=0 from rfl,Int.zero_mul];rfl
theorem Ru:∀(cs:List Lf),a_ cs=true→Hd c cs→False
 |l::cs,h,hs=>(Eu.mp h).elim (fun h=>by
   match l,h,hs with
   |x::l,h,hs=>
    have h:=Ae.mp h
    have:=hs _ Ab
    have e:ev (x::l) (1::c)=x:=by
     show x*(1:Nat)+ev l c=x
     rw[SF l c h.2,Gu]
     exact Int.mul_one x
    rw[e] at this
    exact absurd (UC h.1) (EZ.mpr this)) fun h=>Ru cs h fun f m=>hs f (Af _ m)
theorem P6:∀(n:Nat) (cs:List Lf),Rt n cs=true→Hd c cs→False
 |0,cs,h,hs=>Ru cs h hs
 |n+1,cs,h,hs=>(Eu.mp h).elim (fun h=>Ru cs h hs) fun h=>P6 n _ h (SE hs cs hs)
theorem Qu:∀n,Hd c (units n)
 |0=>fun uu m=>nomatch m
 |n+1=>(Qu n).cons (by rw[PK];exact AY _)
abbrev cS {α:Type}(d:α)(l:List α):Nat→α:=l.rec (fun _=>d) fun x _ t n=>n.rec x fun m _=>t m
abbrev dN (k:Nat→Nat→Pr)(N:Nat):Pr:=k (OC (OD N 16) (Nat.pow 16 (Nat.succ (OC (Nat.add N 15) 16)))) (OD (OD N 16) (Nat.pow 16 (Nat.succ (OC (Nat.add N 15) 16))))
abbrev dT (f:Nat):(Tm→Nat→Pr)→Nat→Pr:=f.rec (fun _ _=> .ff) fun _ t k N=>cS (fun _=> .ff) [k (.v 0),k (.v 1),k (.v 2),k (.v 3),k (.n 1),t fun x=>t fun y=>k (.a x y),t fun x=>t fun y=>k (.s x y),k (.n 0),dN fun j=>k (.n j),
 dN fun j=>t fun x=>k (.m j x),dN fun j=>t fun x=>k (.r x j),dN fun j=>k (.v j),t fun x=>t fun y=>k (.mi x y),t fun x=>t fun y=>k (.ma x y)] (OC N 16) (OD N 16)
abbrev dP (f:Nat):(Pr→Nat→Pr)→Nat→Pr:=f.rec (fun _ _=> .ff) fun _ t k N=>cS (fun _=> .ff) [dT 9 fun x=>dT 9 fun y=>k (.le x y),dT 9 fun x=>dT 9 fun y=>k (.eq x y),t fun p=>t fun q=>k (.im p q),t fun p=>t fun q=>k (.an p q),
 t fun p=>t fun q=>k (.or p q),k .ff] (OC N 16) (OD N 16)
abbrev bG (N:Nat):Pr:=dP 20 (fun p _=>p) N
def eB (N:Nat):Bool:=(bG N).k false (units 7) (Rt 7)
theorem Al (c:List Nat)(N:Nat)(h:autoParam (eB N=true) mqaK):(bG N).d c:=Cb fun z=>(bG N).ok false _ _ h (Qu _) z (P6 _)
end
theorem Kl {x:Nat}(h:x<4611686018427387904):(x:Int)<2 ^ 62:=C_.mpr h
theorem Y2 {x:Nat}(h:x<9223372036854775808):(x:Int)<9223372036854775808:=C_.mpr h
theorem UD {x:Nat}(h:x<4611686018427387904): -2 ^ 62<(x:Int)∧(x:Int)<2 ^ 62:=⟨Int.lt_of_lt_of_le (by decide) (AY x),Kl h⟩
end
local macro_rules |`(tactic|z_go)=>pure (mqtU mqtRfl)
local macro_rules |`(tactic|x_go)=>`(tactic|lia -abstractProof)
local macro_rules |`(tactic|rw[$rs,*])=>pure (mqrwT rs.elemsAndSeps.toList)
local macro_rules |`(tactic|refine $e)=>if e.raw.isOfKind `Lean.Parser.Term.noImplicitLambda then pure (mqtF e.raw[1]) else Lean.Macro.throwUnsupported
section
set_option genCtorIdx true in
inductive BI where
 |len|range|sorted|sum|max|min|tuple|list|set|dict|enumerate|int|abs|str
def BI.val:BI→Ac
 | .len=> .builtin "len"| .range=> .type "range"| .sorted=> .builtin "sorted"| .sum=> .builtin "sum"
 | .max=> .builtin "max"| .min=> .builtin "min"| .tuple=> .type "tuple"| .list=> .type "list"| .set=> .type "set"
 | .dict=> .type "dict"| .enumerate=> .type "enumerate"| .int=> .type "int"| .abs=> .builtin "abs"| .str=> .type "str"
set_option genInjectivity true in
inductive PV where
 |none
 |bool (b:Bool)
 |int (i:Int)
 |str (x:Str)
 |tup (vs:List PV)
 |loc (a:Addr)
 |inst (C a d:Addr)
 |rng (lo hi:Int)
 |bi (b:BI)
 |raw (v:Ac)
def PV.ctorIdx (x:PV):Nat:=PV.casesOn x 0 (fun _=>1) (fun _=>2) (fun _=>3) (fun _=>4) (fun _=>5) (fun _ _ _=>6) (fun _ _=>7) (fun _=>8) (fun _=>9)
abbrev Gv (xs:List Ac):Obj:=seqObj "tuple" xs.toArray 0
abbrev Go (xs:List Ac)(n:Nat):Obj:=seqObj "list" xs.toArray n
abbrev JQ (es:List DictEntry)(n:Nat):Obj:={cls:= .type "dict",data:= .dict es.toArray n}
mutual
noncomputable def AP (h:Heap):PV→Ac→Prop
 | .none,v=>v= .none
 | .bool b,v=>v= .bool b
 | .int i,v=>∃t,v= .int i t
 | .str x,v=>∃t,v= .str x t
 | .tup vs,v=>∃a xs,v= .ref a∧h.get? a=some (Gv xs)∧AG h vs xs
 | .loc a,v=>v= .ref a
 | .inst C a d,v=>v= .ref a∧h.get? a=some (instObj C d)
 | .rng lo hi,v=>∃a t1 t2 t3,v= .ref a∧h.get? a=some {cls:= .type "range",data:= .fields #[.int lo t1, .int hi t2, .int 1 t3]}
 | .bi b,v=>v=b.val
 | .raw w,v=>v=w
noncomputable def AG (h:Heap):List PV→List Ac→Prop
 |[],[]=>True
 |p::ps,x::xs=>AP h p x∧AG h ps xs
 |_,_=>False
end
theorem AG.c {h:Heap}{p:PV}{ps:List PV}{x:Ac}{xs:List Ac}(r:AG h (p::ps) (x::xs)):AP h p x∧AG h ps xs:=r
theorem AG.d {h:Heap}{p:PV}{ps:List PV}{x:Ac}{xs:List Ac}(r:AP h p x∧AG h ps xs):AG h (p::ps) (x::xs):=r
theorem AG.n {h:Heap}:AG h [] []:=trivial
theorem AP.n {h:Heap}{v:Ac}(r:AP h .none v):v= .none:=r
theorem AP.i {h:Heap}{v:Ac}{i:Int}(r:AP h (.int i) v):∃t,v= .int i t:=r
theorem AP.s {h:Heap}{v:Ac}{x:Str}(r:AP h (.str x) v):∃t,v= .str x t:=r
theorem AP.t {h:Heap}{v:Ac}{vs:List PV}(r:AP h (.tup vs) v):∃a xs,v= .ref a∧h.get? a=some (Gv xs)∧AG h vs xs:=r
theorem AP.x {h:Heap}{v:Ac}{C a d:Addr}(r:AP h (.inst C a d) v):v= .ref a∧h.get? a=some (instObj C d):=r
theorem AP.g {h:Heap}{v:Ac}{lo hi:Int}(r:AP h (.rng lo hi) v):∃a t1 t2 t3,v= .ref a∧h.get? a=some {cls:= .type "range",data:= .fields #[.int lo t1, .int hi t2, .int 1 t3]}:=r
theorem AP.k {h:Heap}{v:Ac}{b:BI}(r:AP h (.bi b) v):v=b.val:=r
theorem AP.n' {h:Heap}{v:Ac}(r:v= .none):AP h .none v:=r
theorem AP.b' {h:Heap}{v:Ac}{b:Bool}(r:v= .bool b):AP h (.bool b) v:=r
theorem AP.i' {h:Heap}{v:Ac}{i:Int}(r:∃t,v= .int i t):AP h (.int i) v:=r
theorem AP.s' {h:Heap}{v:Ac}{x:Str}(r:∃t,v= .str x t):AP h (.str x) v:=r
theorem AP.t' {h:Heap}{v:Ac}{vs:List PV}(r:∃a xs,v= .ref a∧h.get? a=some (Gv xs)∧AG h vs xs):AP h (.tup vs) v:=r
theorem AP.l' {h:Heap}{v:Ac}{a:Addr}(r:v= .ref a):AP h (.loc a) v:=r
theorem AP.x' {h:Heap}{v:Ac}{C a d:Addr}(r:v= .ref a∧h.get? a=some (instObj C d)):AP h (.inst C a d) v:=r
theorem AP.g' {h:Heap}{v:Ac}{lo hi:Int}(r:∃a t1 t2 t3,v= .ref a∧h.get? a=some {cls:= .type "range",data:= .fields #[.int lo t1, .int hi t2, .int 1 t3]}):AP h (.rng lo hi) v:=r
theorem AP.k' {h:Heap}{v:Ac}{b:BI}(r:v=b.val):AP h (.bi b) v:=r
theorem AP.w' {h:Heap}{v w:Ac}(r:v=w):AP h (.raw w) v:=r
abbrev BH (h h':Heap):Prop:=∀b o,h.get? b=some o→h'.get? b=some o
mutual
theorem AP.keeps {h h':Heap}(k:BH h h'):∀(p:PV) {v:Ac},AP h p v→AP h' p v
 | .none,_,r| .bool _,_,r| .int _,_,r| .str _,_,r| .loc _,_,r| .bi _,_,r| .raw _,_,r=>r
 | .tup vs,_,r=>by
  refine Cv (AP.t r) fun a xs e g l=>AP.t' ⟨a,xs,e,k _ _ g,AG.keeps k vs l⟩
 | .inst C a d,_,r=>by
  exact AP.x' ⟨(AP.x r).1,k _ _ (AP.x r).2⟩
 | .rng lo hi,_,r=>by
  refine Tr (AP.g r) fun a t1 t2 t3 e g=>AP.g' ⟨a,t1,t2,t3,e,k _ _ g⟩
theorem AG.keeps {h h':Heap}(k:BH h h'):∀(ps:List PV) {vs:List Ac},AG h ps vs→AG h' ps vs
 |[],[],_=>AG.n
 |[],_::_,r=>by exact AF r
 |_::_,[],r=>by exact AF r
 |p::ps,v::vs,r=>by
  exact AG.d ⟨AP.keeps k p (AG.c r).1,AG.keeps k ps (AG.c r).2⟩
end
theorem AG.len {h:Heap}:∀{ps:List PV} {vs:List Ac},AG h ps vs→ps.length=vs.length
 |[],[],_=>rfl
 |[],_::_,r=>by exact AF r
 |_::_,[],r=>by exact AF r
 |p::ps,v::vs,r=>by
  replace r:=AG.c r
  simp only[AQ,r.2.len]
theorem AG.append {h:Heap}:∀{ps qs:List PV} {vs ws:List Ac},AG h ps vs→AG h qs ws→AG h (ps++qs) (vs++ws)
 |[],_,[],_,_,r=>r
 |[],_,_::_,_,r,_=>by exact AF r
 |_::_,_,[],_,r,_=>by exact AF r
 |p::ps,_,v::vs,_,r,r2=>by
  replace r:=AG.c r
  exact AG.d ⟨r.1,r.2.append r2⟩
theorem AG.get {h:Heap}:∀{ps:List PV} {vs:List Ac} {i:Nat} {p:PV},AG h ps vs→ps[i]? =some p→∃v,vs[i]? =some v∧AP h p v
 |[],_,i,p,_,e=>by simp at e
 |_::_,[],_,_,r,_=>by exact AF r
 |q::ps,v::vs,0,p,r,e=>by
  replace r:=AG.c r
  simp only[C7,Bs] at e
  exact⟨v,rfl,e▸r.1⟩
 |q::ps,v::vs,i+1,p,r,e=>by
  replace r:=AG.c r
  simp only[Cp] at e ⊢
  exact r.2.get e
theorem AG.take {h:Heap}:∀{ps:List PV} {vs:List Ac} (n:Nat),AG h ps vs→AG h (ps.take n) (vs.take n)
 |[],[],n,_=>by cases n<;>exact AG.n
 |[],_::_,_,r=>by exact AF r
 |_::_,[],_,r=>by exact AF r
 |p::ps,v::vs,0,r=>AG.n
 |p::ps,v::vs,n+1,r=>by
  replace r:=AG.c r
  exact AG.d ⟨r.1,r.2.take n⟩
theorem AG.drop {h:Heap}:∀{ps:List PV} {vs:List Ac} (n:Nat),AG h ps vs→AG h (ps.drop n) (vs.drop n)
 |[],[],n,_=>by cases n<;>exact AG.n
 |[],_::_,_,r=>by exact AF r
 |_::_,[],_,r=>by exact AF r
 |p::ps,v::vs,0,r=>r
 |p::ps,v::vs,n+1,r=>by
  replace r:=AG.c r
  exact r.2.drop n
theorem AG.set {h:Heap}{q:PV}{w:Ac}(rq:AP h q w):∀{ps:List PV} {vs:List Ac} (i:Nat),AG h ps vs→AG h (ps.set i q) (vs.set i w)
 |[],[],_,_=>AG.n
 |[],_::_,_,r=>by exact AF r
 |_::_,[],_,r=>by exact AF r
 |p::ps,v::vs,0,r=>by
  replace r:=AG.c r
  exact AG.d ⟨rq,r.2⟩
 |p::ps,v::vs,n+1,r=>by
  replace r:=AG.c r
  exact AG.d ⟨r.1,r.2.set rq n⟩
theorem AG.reverse {h:Heap}:∀{ps:List PV} {vs:List Ac},AG h ps vs→AG h ps.reverse vs.reverse
 |[],[],_=>AG.n
 |[],_::_,r=>by exact AF r
 |_::_,[],r=>by exact AF r
 |p::ps,v::vs,r=>by
  replace r:=AG.c r
  simp only[List.reverse_cons]
  exact r.2.reverse.append (AG.d ⟨r.1,AG.n⟩)
mutual
noncomputable def PV.data:PV→Bool
 | .none| .int _=>true
 | .str x=>Qp x
 | .tup vs=>C9 vs
 |_=>false
noncomputable def C9:List PV→Bool
 |[]=>true
 |p::ps=>p.data&&C9 ps
end
mutual
noncomputable def PV.deep:PV→Nat
 | .tup vs=>B_ vs+1
 |_=>0
noncomputable def B_:List PV→Nat
 |[]=>0
 |p::ps=>DG p.deep (B_ ps)
end
mutual
noncomputable def Ig:PV→PyData
 | .int i=> .int i
 | .str x=> .str x
 | .tup vs=> .tuple (Em vs)
 |_=> .none
noncomputable def Em:List PV→List PyData
 |[]=>[]
 |p::ps=>Ig p::Em ps
end
mutual
noncomputable def toW:PV→WData
 | .int i=> .int i
 | .str x=> .str x
 | .tup vs=> .tuple (UE vs)
 |_=> .none
noncomputable def UE:List PV→List WData
 |[]=>[]
 |p::ps=>toW p::UE ps
end
def Bh (P:Params)(p:PV):Int:=hashW P (toW p)
def HP:PV→Bool
 | .raw (.ref _)=>true
 | .raw _=>false
 |_=>true
inductive PO where
 |list (vs:List PV)
 |dict (es:List (PV×PV))(n:Nat)
 |attrs (es:List (PV×PV))
 |set (vs:List PV)
 |enum (src:PV)
end
section
mutual
theorem Ec {h:Heap}:∀(p:PV) {v:Ac},p.data=true→AP h p v→∃as,Reads h v (Ig p) as
 | .none,_,_,r=>by replace r:=AP.n r;subst r;exact⟨_, .none⟩
 | .int i,_,_,r=>by replace r:=AP.i r;refine AI r fun t z1=>?_;clear r;subst z1;exact⟨_, .int i t⟩
 | .str x,_,_,r=>by replace r:=AP.s r;refine AI r fun t z1=>?_;clear r;subst z1;exact⟨_, .str x t⟩
 | .tup vs,_,d,r=>by
  replace r:=AP.t r
  refine Cv r fun a xs z2 g l=>?_;clear r;subst z2
  refine AI (Fy vs d l) fun as q=>?_
  exact⟨_, .tuple g rfl rfl q⟩
 | .bool _,_,d,_| .loc _,_,d,_| .inst ..,_,d,_| .rng ..,_,d,_| .bi _,_,d,_| .raw _,_,d,_=>by exact FI d
theorem Fy {h:Heap}:∀(ps:List PV) {vs:List Ac},C9 ps=true→AG h ps vs→∃as,ReadsAll h vs (Em ps) as
 |[],[],_,_=>⟨_, .nil⟩
 |[],_::_,_,r=>by exact AF r
 |_::_,[],_,r=>by exact AF r
 |p::ps,v::vs,d,r=>by
  replace r:=AG.c r
  replace d:=Ae.mp d
  refine AI (Ec p d.1 r.1) fun as q=>?_
  refine AI (Fy ps d.2 r.2) fun bs q2=>?_
  exact⟨_, .cons q q2⟩
end
mutual
theorem Qv {P:Params}{h:Heap}:∀(p:PV) {v:Ac},p.data=true→AP h p v→Well P h v (toW p)
 | .none,_,_,r=>by replace r:=AP.n r;subst r;exact .none
 | .int i,_,_,r=>by replace r:=AP.i r;refine AI r fun t z1=>?_;clear r;subst z1;exact .int i t
 | .str x,_,_,r=>by replace r:=AP.s r;refine AI r fun t z1=>?_;clear r;subst z1;exact .str x t
 | .tup vs,_,d,r=>by
  replace r:=AP.t r
  refine Cv r fun a xs z2 g l=>?_;clear r;subst z2
  exact .tuple g (P7 vs d l)
 | .bool _,_,d,_| .loc _,_,d,_| .inst ..,_,d,_| .rng ..,_,d,_| .bi _,_,d,_| .raw _,_,d,_=>by exact FI d
theorem P7 {P:Params}{h:Heap}:∀(ps:List PV) {vs:List Ac},C9 ps=true→AG h ps vs→WellAll P h vs (UE ps)
 |[],[],_,_=> .nil
 |[],_::_,_,r=>by exact AF r
 |_::_,[],_,r=>by exact AF r
 |p::ps,v::vs,d,r=>by
  replace r:=AG.c r
  replace d:=Ae.mp d
  exact .cons (Qv p d.1 r.1) (P7 ps d.2 r.2)
end
mutual
theorem Df:∀(p:PV),p.data=true→(Ig p).canLay0=true∧(Ig p).depth=p.deep
 | .none,_=>⟨rfl,rfl⟩
 | .int _,_=>⟨rfl,rfl⟩
 | .str x,d=>⟨d,rfl⟩
 | .tup vs,d=>⟨(CO vs d).1,congrArg (· +1) (CO vs d).2⟩
 | .bool _,d| .loc _,d| .inst ..,d| .rng ..,d| .bi _,d| .raw _,d=>FI d
theorem CO:∀(ps:List PV),C9 ps=true→PyData.canLayAll0 (Em ps)=true∧EQ (Em ps)=B_ ps
 |[],_=>⟨rfl,rfl⟩
 |p::ps,d=>by
  replace d:=Ae.mp d
  have h1:=Df p d.1
  have h2:=CO ps d.2
  exact⟨Ae.mpr ⟨h1.1,h2.1⟩,congr (congrArg DG h1.2) h2.2⟩
end
mutual
theorem No:∀(p q:PV),p.data=true→q.data=true→(IN (Ig p) (Ig q)=true↔p=q)
 | .none,q,_,d=>by induction q using Mine.Internal.PV.casesOn<;>first|exact FI d|exact⟨fun e=>FI e,nofun⟩|exact⟨fun _=>rfl,fun _=>rfl⟩|exact⟨fun e=>congrArg _ (Et e),fun e=>beq_iff_eq.mpr (by injection e)⟩
 | .int i,q,_,d=>by induction q using Mine.Internal.PV.casesOn<;>first|exact FI d|exact⟨fun e=>FI e,nofun⟩|exact⟨fun _=>rfl,fun _=>rfl⟩|exact⟨fun e=>congrArg _ (Et e),fun e=>beq_iff_eq.mpr (by injection e)⟩
 | .str x,q,_,d=>by induction q using Mine.Internal.PV.casesOn<;>first|exact FI d|exact⟨fun e=>FI e,nofun⟩|exact⟨fun _=>rfl,fun _=>rfl⟩|exact⟨fun e=>congrArg _ (Et e),fun e=>beq_iff_eq.mpr (by injection e)⟩
 | .tup vs,q,e,d=>by
  induction q using Mine.Internal.PV.casesOn with
  |tup ws=>exact(JF vs ws e d).trans ⟨congrArg _,PV.tup.inj⟩
  |_=>first|exact FI d|exact⟨fun e=>FI e,nofun⟩
 | .bool _,_,d,_| .loc _,_,d,_| .inst ..,_,d,_| .rng ..,_,d,_| .bi _,_,d,_| .raw _,_,d,_=>FI d
theorem JF:∀(ps qs:List PV),C9 ps=true→C9 qs=true→(O_ (Em ps) (Em qs)=true↔ps=qs)
 |[],[],_,_=>⟨fun _=>rfl,fun _=>rfl⟩
 |[],_::_,_,_=>⟨fun e=>FI e,nofun⟩
 |_::_,[],_,_=>⟨fun e=>FI e,nofun⟩
 |p::ps,q::qs,d,e=>by
  replace d:=Ae.mp d
  replace e:=Ae.mp e
  have a:=No p q d.1 e.1
  have b:=JF ps qs d.2 e.2
  exact⟨fun h=>Hr.mpr ⟨a.mp (Ae.mp h).1,b.mp (Ae.mp h).2⟩,fun h=>Ae.mpr ⟨a.mpr (Hr.mp h).1,b.mpr (Hr.mp h).2⟩⟩
end
open Classical in
theorem Ih (p q:PV)(hp:p.data=true)(hq:q.data=true):IN (Ig p) (Ig q)=decide (p=q):=by
 by_cases e:p=q
 ·rw[decide_eq_true e];exact(No p q hp hq).mpr e
 ·rw[decide_eq_false e];exact Hp.mpr fun x=>e ((No p q hp hq).mp x)
open Classical in
theorem MK (ps qs:List PV)(hp:C9 ps=true)(hq:C9 qs=true):O_ (Em ps) (Em qs)=decide (ps=qs):=by
 by_cases e:ps=qs
 ·rw[decide_eq_true e];exact(JF ps qs hp hq).mpr e
 ·rw[decide_eq_false e];exact Hp.mpr fun x=>e ((JF ps qs hp hq).mp x)
mutual
theorem M8:∀(p:PV),p.data=true→(toW p).isDKey=true∧(toW p).depth≤p.deep+1
 | .none,_=>⟨rfl,BM _⟩
 | .int _,_=>⟨rfl,BM _⟩
 | .str x,_=>⟨rfl,BM _⟩
 | .tup vs,d=>by
  have:=Np vs d
  exact⟨this.1,by have:=this.2;exact(Al [_,_] 0x441554050415002) this⟩
 | .bool _,d| .loc _,d| .inst ..,d| .rng ..,d| .bi _,d| .raw _,d=>by exact FI d
theorem Np:∀(ps:List PV),C9 ps=true→WData.areDKeys (UE ps)=true∧WData.depthAll (UE ps)≤B_ ps+1
 |[],_=>⟨rfl,BM _⟩
 |p::ps,d=>by
  replace d:=Ae.mp d
  have h1:=M8 p d.1
  have h2:=Np ps d.2
  refine⟨Ae.mpr ⟨h1.1,h2.1⟩,?_⟩
  have a:=h1.2
  have b:=h2.2
  have c:p.deep≤DG p.deep (B_ ps):=Ge ..
  have e:B_ ps≤DG p.deep (B_ ps):=FO ..
  exact(Al [_,_,_,_,_] 0x42510d0241b022302441b5102435002) a b c e
end
section
variable {prog:Program}{w:World}{A:B2}{E:Ac→Ad→Prop}{s:Ad}
theorem Lc {p:PV}{v:Ac}{Q:Int→Ad→Prop}(d:p.data=true)(r:AP s.heap p v)(hu:A.units+p.deep+1<cLine)
  (h:∀tk,Q (Bh w.params p) {s with toks:=tk}):wpAny (model prog w) A (pyHash v) Q E s:=
 pyHash_laid (toW p) v A s Q (M8 p d).1 (Qv p d r) (by have:=(M8 p d).2;exact(Al [_,_,_,_] 0x24105504351022443055502) hu this) h
open Classical in
theorem HQ {p q:PV}{v u:Ac}{Q:Bool→Ad→Prop}(dp:p.data=true)(dq:q.data=true)(rp:AP s.heap p v)(rq:AP s.heap q u)
  (hu:A.units+p.deep<cLine)(h:Q (decide (p=q)) s):wpAny (model prog w) A (eqBool v u) Q E s:=by
 refine AI (Ec p dp rp) fun as r1=>?_
 refine AI (Ec q dq rq) fun bs r2=>?_
 refine PySem.SeqAt.eqBoolOverData prog w A E s v u _ _ as bs Q r1 r2 (Df p dp).1 (Df q dq).1 ?_ (by rw[Ih p q dp dq];exact h)
 have:=(Df p dp).2
 have:=DO (Ig p).depth (Ig q).depth
 exact(Al [_,_,_,_,_] 0x3421c055041b1123441b05502) hu ‹_›
open Classical in
theorem Zt {p q:PV}{v u:Ac}{Q:Ac→Ad→Prop}(dp:p.data=true)(dq:q.data=true)(rp:AP s.heap p v)(rq:AP s.heap q u)
  (hu:A.units+p.deep<cLine)(h:Q (.bool (decide (p=q))) s):wpAny (model prog w) A (richCompare .Eq v u) Q E s:=by
 refine AI (Ec p dp rp) fun as r1=>?_
 refine AI (Ec q dq rq) fun bs r2=>?_
 refine Ix prog w A E s v u _ _ as bs Q r1 r2 (Df p dp).1 (Df q dq).1 ?_ (by rw[Ih p q dp dq];exact h)
 have:=(Df p dp).2
 have:=DO (Ig p).depth (Ig q).depth
 exact(Al [_,_,_,_,_] 0x3421c055041b1123441b05502) hu ‹_›
open Classical in
theorem Zu {p q:PV}{v u:Ac}{Q:Ac→Ad→Prop}(dp:p.data=true)(dq:q.data=true)(rp:AP s.heap p v)(rq:AP s.heap q u)
  (hu:A.units+p.deep<cLine)(h:Q (.bool (!decide (p=q))) s):wpAny (model prog w) A (richCompare .NotEq v u) Q E s:=by
 refine AI (Ec p dp rp) fun as r1=>?_
 refine AI (Ec q dq rq) fun bs r2=>?_
 refine Iw prog w A E s v u _ _ as bs Q r1 r2 (Df p dp).1 (Df q dq).1 ?_ (by rw[Ih p q dp dq];exact h)
 have:=(Df p dp).2
 have:=DO (Ig p).depth (Ig q).depth
 exact(Al [_,_,_,_,_] 0x3421c055041b1123441b05502) hu ‹_›
theorem Ld:∀(n:Nat) (p:PV) {v:Ac} {s:Ad} {Q:Bool→Ad→Prop},p.data=true→AP s.heap p v→p.deep≤n→Q true s→wpAny (model prog w) A (eqIsQuiet n v) Q E s:=by
 intro n
 induction n with
 |zero=>
  intro p v s Q d r hd h
  induction p using Mine.Internal.PV.casesOn with
  |none=>replace r:=AP.n r;subst r;exact A9 h
  |int i=>replace r:=AP.i r;refine AI r fun t z1=>?_;clear r;subst z1;exact A9 h
  |str x=>replace r:=AP.s r;refine AI r fun t z1=>?_;clear r;subst z1;exact A9 h
  |tup vs=>exact absurd hd (E8 _)
  |_=>exact FI d
 |succ n ih=>
  intro p v s Q d r hd h
  induction p using Mine.Internal.PV.casesOn with
  |none=>replace r:=AP.n r;subst r;exact A9 h
  |int i=>replace r:=AP.i r;refine AI r fun t z1=>?_;clear r;subst z1;exact A9 h
  |str x=>replace r:=AP.s r;refine AI r fun t z1=>?_;clear r;subst z1;exact A9 h
  |tup vs=>
   replace r:=AP.t r
   refine Cv r fun a xs z2 g l=>?_;clear r;subst z2
   have hT:s.TypeIs (.ref a) "tuple":=⟨_,g,rfl⟩
   unfold eqIsQuiet
   refine A7 (EO hT F.slot_tuple_eq.lookup ?_)
   refine(?_:wpAny _ _ (isInstance (.ref a) (.type "tuple")>>=_) _ _ s)
   refine A7 (BS hT isSubtype_tuple_tuple ?_)
   refine A7 (DC g rfl ?_)
   refine A7 ?_
   refine(?_:wpAny _ _ (forIn xs.toArray _ _) _ _ s)
   rw[←GP]
   refine Dz _ (fun rest r s'=>r.1=none∧s'=s∧∃ps,AG s.heap ps rest∧C9 ps=true∧B_ ps≤n) _ ?_ ?_ _ _ ⟨rfl,rfl,vs,l,d,by exact(Al [_,_] 0x10041540502) hd⟩
   ·intro v rest r s' z24;refine Aw z24 fun hr zr=>?_;clear z24;revert zr;refine fun zq=>Aw zq fun z0 zr=>?_;clear zq;subst z0;refine CP zr fun ps lp dp hp=>?_;clear zr
    induction ps using Az with
    |nil=>exact AF lp
    |cons p ps=>
     replace lp:=AG.c lp
     replace dp:=Ae.mp dp
     have c:p.deep≤DG p.deep (B_ ps):=Ge ..
     have e:B_ ps≤DG p.deep (B_ ps):=FO ..
     replace hp:DG p.deep (B_ ps)≤n:=hp
     refine A7 (ih p dp.1 lp.1 (by exact Aa ‹_› ‹_›) ?_)
     exact A9 ⟨rfl,rfl,ps,lp.2,dp.2,by exact Aa ‹_› ‹_›⟩
   ·intro z20;rcases z20 with⟨r1,r2⟩;intro s' z22;refine DF z22 fun hr z1 uu=>?_;clear z22;subst z1
    simp only at hr
    subst hr
    exact A9 h
  |_=>exact FI d
end
end
section
abbrev AH:=Addr→Option PO
def AH.set (H:AH)(a:Addr)(o:PO):AH:=fun b=>if b=a then some o else H b
@[simp] theorem AH.set_self (H:AH)(a:Addr)(o:PO):H.set a o a=some o:=if_pos rfl
theorem AH.set_ne {H:AH}{a b:Addr}{o:PO}(h:b≠a):H.set a o b=H b:=if_neg h
open Classical in
def without (h:Heap)(P:Addr→Prop):Heap:=
 ⟨h.objs.mapIdx fun i o=>if P i then{o with data:= .freed} else o,h.life⟩
open Classical in
theorem Nq (h:Heap)(P:Addr→Prop)(a:Addr):(without h P).objs[a]? =(h.objs[a]?).map fun o=>if P a then{o with data:= .freed} else o:=Array.getElem?_mapIdx ..
theorem CH (h:Heap)(P:Addr→Prop){a:Addr}(n:¬P a):(without h P).get? a=h.get? a:=by
 have e:(without h P).objs[a]? =h.objs[a]? :=(Nq h P a).trans ((congrFun (congrArg _ (funext fun _=>if_neg n)) _).trans (congrFun Option.map_id _))
 unfold Heap.get?
 rw[e];rfl
theorem CD (h:Heap)(P:Addr→Prop){a:Addr}(y:P a):(without h P).get? a=none:=by
 have e:(without h P).objs[a]? =(h.objs[a]?).map fun o=>{o with data:= .freed}:=(Nq h P a).trans (congrFun (congrArg _ (funext fun _=>if_pos y)) _)
 unfold Heap.get?
 rw[e]
 cases h.objs[a]? <;>rfl
theorem Lg {h:Heap}{P:Addr→Prop}{a:Addr}{o:Obj}(e:(without h P).get? a=some o):¬P a∧h.get? a=some o:=by
 by_cases y:P a
 ·rw[CD h P y] at e;exact CC e
 ·exact⟨y,(CH h P y)▸e⟩
def DQ (o:Obj):Prop:=(∀xs,o≠Gv xs)∧(∀C d,o≠instObj C d)∧∀vs,o≠{cls:= .type "range",data:= .fields vs}
mutual
theorem AP.without {h:Heap}{P:Addr→Prop}(hP:∀a o,P a→h.get? a=some o→DQ o):
  ∀(p:PV) {v:Ac},AP h p v→AP (without h P) p v
 | .none,_,r| .bool _,_,r| .int _,_,r| .str _,_,r| .loc _,_,r| .bi _,_,r| .raw _,_,r=>r
 | .tup vs,_,r=>by
  refine Cv (AP.t r) fun a xs e g l=>AP.t' ⟨a,xs,e,(CH h P fun y=>(hP a _ y g).1 _ rfl).trans g,AG.without hP vs l⟩
 | .inst C a d,_,r=>by
  exact AP.x' ⟨(AP.x r).1,(CH h P fun y=>(hP a _ y (AP.x r).2).2.1 _ _ rfl).trans (AP.x r).2⟩
 | .rng lo hi,_,r=>by
  refine Tr (AP.g r) fun a t1 t2 t3 e g=>AP.g' ⟨a,t1,t2,t3,e,(CH h P fun y=>(hP a _ y g).2.2 _ rfl).trans g⟩
theorem AG.without {h:Heap}{P:Addr→Prop}(hP:∀a o,P a→h.get? a=some o→DQ o):
  ∀(ps:List PV) {vs:List Ac},AG h ps vs→AG (without h P) ps vs
 |[],[],_=>by exact AG.n
 |[],_::_,r=>by exact AF r
 |_::_,[],r=>by exact AF r
 |p::ps,v::vs,r=>by
  exact AG.d ⟨AP.without hP p (AG.c r).1,AG.without hP ps (AG.c r).2⟩
end
def DJ (P:Params)(h:Heap):List (PV×PV)→List DictEntry→Prop
 |[],[]=>True
 |(k,v)::r,e::es=>AP h k e.key∧AP h v e.val∧e.hash=Bh P k∧DJ P h r es
 |_,_=>False
theorem DJ.keeps {P:Params}{h h':Heap}(k:BH h h'):∀{r:List (PV×PV)} {es:List DictEntry},DJ P h r es→DJ P h' r es
 |[],[],_=>trivial
 |[],_::_,x=>x.elim
 |_::_,[],x=>x.elim
 |(_,_)::_,_::_,x=>⟨AP.keeps k _ x.1,AP.keeps k _ x.2.1,x.2.2.1,x.2.2.2.keeps k⟩
def Km (P:Params)(h:Heap):PO→Obj→Prop
 | .list vs,o=>∃xs n,o=Go xs n∧AG h vs xs
 | .dict es n,o=>∃ds,o=JQ ds n∧DJ P h es ds
 | .attrs es,o=>∃ds n,o=JQ ds n∧DJ P h es ds∧∀q∈es,(∃x,q.1= .str x)∧HP q.2=true
 | .set vs,o=>∃es n t,o={cls:= .type "set",data:= .set es n t}∧t.fits es.size=true∧(∀a b,a<b→b<t.place.size→t.place.getD a 0<t.place.getD b 0)∧(P.followText "set-order"=true∨t.led=true)∧∃ws:List PV,ws.Perm vs∧AG h ws (es.toList.map (·.2))
 | .enum src,o=>∃l it n,o={cls:= .type "enumerate",data:= .fields #[n,it,l]}∧AP h src l
theorem Km.keeps {P:Params}{h h':Heap}(k:BH h h'){p:PO}{o:Obj}(r:Km P h p o):Km P h' p o:=by
 induction p using PO.casesOn with
 |list vs=>exact r.elim fun xs r=>r.elim fun n r=>⟨xs,n,r.1,r.2.keeps k⟩
 |dict es n=>exact r.elim fun ds r=>⟨ds,r.1,r.2.keeps k⟩
 |attrs es=>exact r.elim fun ds r=>r.elim fun n r=>⟨ds,n,r.1,r.2.1.keeps k,r.2.2⟩
 |set vs=>
  refine Ux r fun es n t e f r1 l r=>?_
  exact r.elim fun ws r=>⟨es,n,t,e,f,r1,l,ws,r.1,r.2.keeps k⟩
 |enum src=>exact r.elim fun l r=>r.elim fun it r=>r.elim fun n r=>⟨l,it,n,r.1,AP.keeps k _ r.2⟩
theorem Km.live {P:Params}{h:Heap}{p:PO}{o:Obj}(r:Km P h p o):o.isFreed=false:=by
 induction p using PO.casesOn with
 |list vs=>exact r.elim fun xs r=>r.elim fun n r=>r.1▸rfl
 |dict es n=>exact r.elim fun ds r=>r.1▸rfl
 |attrs es=>exact r.elim fun ds r=>r.elim fun n r=>r.1▸rfl
 |set vs=>exact r.elim fun es r=>r.elim fun n r=>r.elim fun t r=>r.1▸rfl
 |enum src=>exact r.elim fun l r=>r.elim fun it r=>r.elim fun n r=>r.1▸rfl
structure FldOk (K:Frag)(C:Addr)(name:Str):Prop where
 get:plainGet K C name=true
 dict:hasDictIn K C=true
 none:findIn K (.ref C) name=some none
 over:plainOver K C=true
 set:findIn K (.ref C) "__setattr__"=some (some (.builtin "object.__setattr__"))
structure MethOk (K:Frag)(C:Addr)(name:Str)(f:Addr):Prop where
 get:plainGet K C name=true
 find:findIn K (.ref C) name=some (some (.ref f))
 fn:isFn K (.ref f)=true
structure Ctx where
 prog:Program
 w:World
 K:Frag
 mg:Str→Option Ac
 mb:Str→Option Ac
 os:OsState
 glob:Str→Option PV
 meth:Addr→Str→Option Addr
 fld:Addr→Str→Bool
 lst:Option (Addr×List PV)
 exc:Option Addr
structure Ctx.In (X:Ctx)(h:Heap):Prop where
 k:X.K.In h
 g:h.Ns mainGlobals X.mg
 b:h.Ns builtinsNs X.mb
 lim:h.NoLimit
 gl:∀x p,X.glob x=some p→∃v,(X.mg x=some v∨(X.mg x=none∧X.mb x=some v))∧AP h p v
 ls:∀a vs,X.lst=some (a,vs)→∃xs n,h.get? a=some (Go xs n)∧AG h vs xs
 ex:∀a,X.exc=some a→∃o xs,h.get? a=some o∧o.data= .fields xs∧xs[2]? =some .none
 lo:∃a o,4≤a∧h.get? a=some o
 fd:∀C name,X.fld C name=true→FldOk X.K C name
 mt:∀C name f,X.meth C name=some f→MethOk X.K C name f
theorem Ctx.In.keeps {X:Ctx}{h h':Heap}(x:X.In h)(k:BH h h'):X.In h':=
 ⟨x.k.keeps k,x.g.keeps k,x.b.keeps k,x.lim.keeps k,fun y p e=>let⟨v,a,b⟩:=x.gl y p e;⟨v,a,AP.keeps k _ b⟩,fun a vs e=>let⟨xs,n,g,r⟩:=x.ls a vs e;⟨xs,n,k _ _ g,r.keeps k⟩,fun a e=>let⟨o,xs,g,r⟩:=x.ex a e;⟨o,xs,k _ _ g,r⟩,let⟨a,o,l,g⟩:=x.lo;⟨a,o,l,k _ _ g⟩,x.fd,x.mt⟩
structure Own (X:Ctx)(h:Heap)(H:AH)(s:Ad):Prop where
 keep:BH h s.heap
 cell:∀a po,H a=some po→h.get? a=none∧∃o,s.heap.get? a=some o∧Km X.w.params h po o
 gens:s.gens=#[]
 os:s.os=X.os
 lo:4≤s.heap.objs.size
 hi:∀a po,H a=some po→4≤a
def Uv (s:Ad)(H:AH):Heap:=without s.heap fun a=>(H a).isSome=true
section
variable {X:Ctx}{h h':Heap}{H H':AH}{s s':Ad}
theorem Own.tok (O:Own X h H s)(e1:autoParam (s'.heap=s.heap) mqaR)(e2:autoParam (s'.gens=s.gens) mqaR)(e3:autoParam (s'.os=s.os) mqaR):Own X h H s':=
 ⟨e1▸O.keep,e1▸O.cell,e2.trans O.gens,e3.trans O.os,e1▸O.lo,O.hi⟩
theorem Own.mono (O:Own X h H s)(sub:∀a po,H' a=some po→H a=some po):Own X h H' s:=⟨O.keep,fun a po e=>O.cell a po (sub a po e),O.gens,O.os,O.lo,fun a po e=>O.hi a po (sub a po e)⟩
theorem Own.keepsFrz (O:Own X h H s):BH h (Uv s H):=fun b o e=>by
 have n:¬(H b).isSome=true:=fun y=>by
  refine AI (Option.isSome_iff_exists.mp y) fun po hp=>?_
  rw[(O.cell b po hp).1] at e;exact CC e
 exact(CH _ _ n).trans (O.keep b o e)
theorem Own.freeze (O:Own X h H s):Own X (Uv s H) H s:=by
 have k:=O.keepsFrz
 refine⟨fun b o e=>(Lg e).2,fun a po e=>⟨CD _ _ (by rw[e];rfl),?_⟩,O.gens,O.os,O.lo,O.hi⟩
 refine Aw (O.cell a po e) fun uu zr=>?_;refine AB zr fun o g r=>?_;clear zr
 exact⟨o,g,r.keeps k⟩
theorem DS (H:AH){s:Ad}{a:Addr}{o:Obj}(n:H a=none)(e:s.heap.get? a=some o):(Uv s H).get? a=some o:=
 (CH _ _ (by rw[n];decide)).trans e
theorem Own.at (O:Own X h H s){a:Addr}{po:PO}(e:H a=some po):∃o,s.heap.get? a=some o∧Km X.w.params h po o:=(O.cell a po e).2
theorem Own.fresh (O:Own X h H s):H s.heap.objs.size=none:=by
 cases e:H s.heap.objs.size with
 |none=>rfl
 |some po=>
  refine AB (O.at e) fun o g uu=>?_
  exact absurd (Ax g) (BO _)
theorem Own.push (O:Own X h H s)(o:Obj):Own X h H {s with heap:=s.heap.push o}:=
 ⟨fun b x e=>Aj _ (O.keep b x e),fun a po e=>let⟨n,x,g,r⟩:=O.cell a po e;⟨n,x,Aj _ g,r⟩,O.gens,O.os,by refine(?_:4≤(s.heap.push o).objs.size);rw[B3 _ _];exact CR O.lo,O.hi⟩
theorem Own.pushT (O:Own X h H s){o:Obj}{po:PO}(r:Km X.w.params h po o):Own X h (H.set s.heap.objs.size po) {s with heap:=s.heap.push o}:=by
 refine⟨fun b x e=>Aj _ (O.keep b x e),fun a p e=>?_,O.gens,O.os,by refine(?_:4≤(s.heap.push o).objs.size);rw[B3 _ _];exact CR O.lo,fun a p e=>?_⟩
 rotate_left
 ·by_cases q:a=s.heap.objs.size
  ·rw[q];exact O.lo
  ·rw[AH.set_ne q] at e;exact O.hi a p e
 by_cases q:a=s.heap.objs.size
 ·subst q
  rw[AH.set_self] at e
  replace e:=Ai e;subst e
  refine⟨?_,o,Ar _ r.live,r⟩
  cases z:h.get? s.heap.objs.size with
  |none=>rfl
  |some x=>exact absurd (Ax (O.keep _ _ z)) (BO _)
 ·rw[AH.set_ne q] at e
  refine Aw (O.cell a p e) fun n zr=>?_;refine AB zr fun x g y=>?_;clear zr
  exact⟨n,x,Aj _ g,y⟩
theorem Own.upd (O:Own X h H s){a:Addr}{po po':PO}{h':Heap}(e:H a=some po)(hs:Cm a s.heap h')(g:∃o,h'.get? a=some o∧Km X.w.params h po' o):Own X h (H.set a po') {s with heap:=h'}:=by
 refine⟨fun b x q=>?_,fun b p q=>?_,O.gens,O.os,by refine(?_:4≤h'.objs.size);rewrite[hs.1];exact O.lo,fun b p q=>?_⟩
 rotate_right
 ·by_cases z:b=a
  ·rw[z];exact O.hi _ _ e
  ·rw[AH.set_ne z] at q;exact O.hi b p q
 ·by_cases z:b=a
  ·subst z;rw[(O.cell _ _ e).1] at q;exact CC q
  ·exact(hs.2 b z).trans (O.keep b x q)
 ·by_cases z:b=a
  ·subst z
   rw[AH.set_self] at q
   replace q:=Ai q;subst q
   exact⟨(O.cell _ _ e).1,g⟩
  ·rw[AH.set_ne z] at q
   refine Aw (O.cell b p q) fun n zr=>?_;refine AB zr fun x y r=>?_;clear zr
   exact⟨n,x,(hs.2 b z).trans y,r⟩
theorem Own.other (O:Own X h H s){a:Addr}{h':Heap}(e:H a=none)(f:h.get? a=none)(hs:Cm a s.heap h'):Own X h H {s with heap:=h'}:=by
 refine⟨fun b x q=>?_,fun b p q=>?_,O.gens,O.os,by refine(?_:4≤h'.objs.size);rewrite[hs.1];exact O.lo,O.hi⟩
 ·by_cases z:b=a
  ·subst z;rw[f] at q;exact CC q
  ·exact(hs.2 b z).trans (O.keep b x q)
 ·refine Aw (O.cell b p q) fun n zr=>?_;refine AB zr fun x y r=>?_;clear zr
  have z:b≠a:=fun z=>by subst z;rw[e] at q;exact CC q
  exact⟨n,x,(hs.2 b z).trans y,r⟩
end
def Lh (X:Ctx)(d:Nat)(A:B2):Prop:=A.depth+d≤900∧A.units+20*d≤9000∧A.handled=X.exc.map .ref
def EG (X:Ctx)(h:Heap)(Q:PV→AH→Prop)(post:Ac→Ad→Prop):Prop:=
 ∀v s' h₁ p H',BH h h₁→Own X h₁ H' s'→AP h₁ p v→Q p H'→post v s'
def Op (X:Ctx)(d:Nat)(f:List Ac→Sem Ac)(ps:List PV)(H:AH)(Q:PV→AH→Prop):Prop:=
 ∀(h:Heap) (s:Ad) (vs:List Ac) (A:B2) (E:Ac→Ad→Prop) (post:Ac→Ad→Prop),
  X.In h→Own X h H s→AG h ps vs→Lh X d A→EG X h Q post→wpAny (model X.prog X.w) A (f vs) post E s
def Bz (X:Ctx)(d:Nat)(f:PV)(ps:List PV)(H:AH)(Q:PV→AH→Prop):Prop:=
 (∃v,f= .raw v∧keepIn X.K v=true)∧Op X d (fun vs=>call (vs.headD .none) vs.tail) (f::ps) H Q
section
variable {X:Ctx}{d:Nat}{f:List Ac→Sem Ac}{ps:List PV}{H:AH}{Q Q':PV→AH→Prop}
theorem Op.mono (o:Op X d f ps H Q)(q:∀p H',Q p H'→Q' p H'):Op X d f ps H Q':=
 fun h s vs A E post x O r ok P=>o h s vs A E post x O r ok fun v s' h₁ p H' k O' r' z=>P v s' h₁ p H' k O' r' (q p H' z)
theorem Bz.mono {g:PV}(o:Bz X d g ps H Q)(q:∀p H',Q p H'→Q' p H'):Bz X d g ps H Q':=⟨o.1,Op.mono o.2 q⟩
theorem Bz.mv {g a:PV}{H0:AH}(o:Bz X d g ps H fun p H'=>p=a∧H'=H0)(q:Q' a H0):Bz X d g ps H Q':=o.mono fun _ _ h=>h.1▸h.2▸q
theorem Bz.m1 {g a:PV}{P:AH→Prop}(o:Bz X d g ps H fun p H'=>p=a∧P H')(q:∀H',P H'→Q' a H'):Bz X d g ps H Q':=o.mono fun _ H' h=>h.1▸q H' h.2
theorem Bz.m2 {ι:Type}{g:PV}{f:ι→PV}{P:ι→AH→Prop}(o:Bz X d g ps H fun p H'=>∃i,p=f i∧P i H')(q:∀i H',P i H'→Q' (f i) H'):Bz X d g ps H Q':=o.mono fun _ H' h=>h.elim fun i e=>e.1▸q i H' e.2
theorem Bz.m3 {ι:Type}{g:PV}{f:ι→PV}{A:ι→Prop}{B C:AH→Prop}(o:Bz X d g ps H fun p H'=>(∃r,A r∧p=f r)∧B H'∧C H')(q:∀r H',A r→B H'→C H'→Q' (f r) H'):Bz X d g ps H Q':=o.mono fun _ H' h=>h.1.elim fun r e=>e.2▸q r H' e.1 h.2.1 h.2.2
end
section
variable {X:Ctx}{d:Nat}{h:Heap}{H:AH}{s:Ad}{A:B2}{E:Ac→Ad→Prop}{Q:PV→AH→Prop}{post:Ac→Ad→Prop}
theorem EG.here (P:EG X h Q post)(O:Own X h H s){p:PV}{v:Ac}(r:AP h p v)(q:Q p H):post v s:=P v s h p H (fun uu uu e=>e) O r q
theorem Rv {ps:List PV}{vs:List Ac}(P:EG X h Q post)(O:Own X h H s)(r:AG h ps vs)(q:Q (.tup ps) H)(hz:vs.length≤1000000):
  wpAny (model X.prog X.w) A (newTuple vs) post E s:=by
 refine Bb ?_ (by refine(?_:vs.toArray.size≤sizeLine);rw[AE,AV];exact Aa ‹_› (by decide))
 have O':=O.push (seqObj "tuple" vs.toArray 0)
 refine P _ _ _ _ _ O'.keepsFrz O'.freeze ?_ q
 refine AP.t' ?_
 exact FQ _ vs rfl (DS H O.fresh (Ar _ rfl)) (r.keeps O'.keepsFrz)
theorem Tu {ps:List PV}{vs:List Ac}(P:EG X h Q post)(O:Own X h H s)(r:AG h ps vs)(q:∀a,H a=none→Q (.loc a) (H.set a (.list ps)))(hz:vs.length≤1000000):
  wpAny (model X.prog X.w) A (newList vs) post E s:=by
 refine Bb ?_ (by refine(?_:vs.toArray.size≤sizeLine);rw[AE,AV];exact Aa ‹_› (by decide))
 exact P.here (O.pushT (po:= .list ps) ⟨vs,0,rfl,r⟩) (by refine AP.l' ?_;rfl) (q _ O.fresh)
end
end
section
open Classical
abbrev LM:=List (Str×Option PV)
abbrev SC:=List (Str×NameKind)
inductive Fl where
 |next|brk|cont
 |ret (p:PV)
def nb:List Nat→Nat
 |[]=>1
 |c::r=>c+256*nb r
theorem Rw:∀l,1≤nb l
 |[]=>Ak _
 |c::r=>by have:=Rw r;show 1≤c+256*nb r;exact(Al [_,_] 0x11003905401402) this
theorem UF:∀{a b:List Nat},(a.all fun c=>OE c 256)=true→(b.all fun c=>OE c 256)=true→nb a=nb b→a=b
 |[],[],_,_,_=>rfl
 |[],c::r,_,_,h=>by have:=Rw r;have h:1=c+256*nb r:=h;x_go
 |c::r,[],_,_,h=>by have:=Rw r;have h:c+256*nb r=1:=h;x_go
 |c::r,c'::r',ha,hb,h=>by
  have ha:=Ae.mp ha
  have hb:=Ae.mp hb
  have h1:=BC ha.1
  have h2:=BC hb.1
  have h:c+256*nb r=c'+256*nb r':=h
  rw[UF ha.2 hb.2 (by x_go),show c=c' by x_go] at ⊢
def Wn (x:Str):Nat:=bif x.cps.toList.all fun c=>OE c 256 then nb x.cps.toList else 0
def same (y x:Str):Bool:=bif Wn y == 0||Wn x == 0 then decide (y=x) else Wn y == Wn x
theorem SG {x:Str}(h:Wn x≠0):(x.cps.toList.all fun c=>OE c 256)=true∧Wn x=nb x.cps.toList:=by
 cases e:(x.cps.toList.all fun c=>OE c 256) with
 |true=>exact⟨rfl,by unfold Wn;rw[e] at ⊢;rfl⟩
 |false=>exact absurd (by unfold Wn;rw[e] at ⊢;rfl) h
theorem F1 {y x:Str}:same y x=true↔y=x:=by
 cases hc:(Wn y == 0||Wn x == 0) with
 |true=>unfold same;rw[hc] at ⊢;exact decide_eq_true_iff
 |false=>
  have hb:=Jo.mp hc
  obtain ⟨a1,a2⟩:=SG (beq_eq_false_iff_ne.mp hb.1)
  obtain ⟨b1,b2⟩:=SG (beq_eq_false_iff_ne.mp hb.2)
  unfold same
  rw[hc] at ⊢
  refine⟨fun e=>?_,fun e=>by rw[e] at ⊢;exact beq_self_eq_true _⟩
  have:=UF a1 b1 (a2.symm.trans ((Et e).trans b2))
  induction y using Fj;induction x using Fj
  exact congrArg Str.mk (MD.mp this)
theorem Gw {α:Type}{y x:Str}{a b:α}:(bif same y x then a else b)=if y=x then a else b:=by
 by_cases c:y=x
 ·rw[if_pos c,F1.mpr c] at ⊢;rfl
 ·rw[if_neg c] at ⊢
  cases h:same y x with
  |true=>exact absurd (F1.mp h) c
  |false=>rfl
def lk (x:Str):LM→Option PV
 |[]=>none
 |(y,v)::r=>bif same y x then v else lk x r
def Wo (x:Str)(p:PV):LM→LM
 |[]=>[]
 |(y,v)::r=>bif same y x then(y,some p)::r else(y,v)::Wo x p r
def kd (x:Str):SC→Option NameKind
 |[]=>none
 |(y,k)::r=>bif same y x then some k else kd x r
theorem F2 {x y:Str}{v:Option PV}{r:LM}:lk x ((y,v)::r)=if y=x then v else lk x r:=Gw
theorem UG {x y:Str}{p:PV}{v:Option PV}{r:LM}:Wo x p ((y,v)::r)=if y=x then(y,some p)::r else(y,v)::Wo x p r:=Gw
theorem FJ {x y:Str}{k:NameKind}{r:SC}:kd x ((y,k)::r)=if y=x then some k else kd x r:=Gw
def gd (b:Bool)(P:Prop):Prop:=match b with
 |true=>P
 |false=>False
theorem CX {b:Bool}{P:Prop}(h:gd b P):b=true∧P:=by
 induction b using AX with
 |true=>exact⟨rfl,h⟩
 |false=>exact h.elim
def EH (k:PV):List (PV×PV)→Option PV
 |[]=>none
 |(q,v)::r=>if q=k then some v else EH k r
def put (k v:PV):List (PV×PV)→List (PV×PV)
 |[]=>[(k,v)]
 |(q,u)::r=>if q=k then(q,v)::r else(q,u)::put k v r
def Wp (k:PV):List (PV×PV)→List (PV×PV)
 |[]=>[]
 |(q,u)::r=>if q=k then r else(q,u)::Wp k r
theorem HR {k q v:PV}{r:List (PV×PV)}:EH k ((q,v)::r)=if q=k then some v else EH k r:=rfl
theorem Zv {k v:PV}:put k v []=[(k,v)]:=rfl
theorem Li {k q u v:PV}{r:List (PV×PV)}:put k v ((q,u)::r)=if q=k then(q,v)::r else(q,u)::put k v r:=rfl
theorem Zw {k q u:PV}{r:List (PV×PV)}:Wp k ((q,u)::r)=if q=k then r else(q,u)::Wp k r:=rfl
def Bw (es:List (PV×PV)):Prop:=C9 (es.map (·.1))=true∧(es.map (·.1)).Nodup∧es.length≤100000∧B_ (es.map (·.1))≤7
def b5:PV→Bool
 | .int _=>true
 | .tup _=>true
 |_=>false
def Cz (k:PV):Prop:=k.data=true∧k.deep≤7∧b5 k=true
def small (i:Int):Prop:= -(2 ^ 62)<i∧i<2 ^ 62
def room (i:Int):Prop:=K0 i≤1000000
def Zx:Option PV→(PV→Prop)→Prop
 |some p,K=>K p
 |none,_=>False
def vI:PV→(Int→Prop)→Prop
 | .int i,K=>K i
 |_,_=>False
theorem Dm {p:PV}{K:Int→Prop}(h:vI p K):∃i,p= .int i∧K i:=by induction p using Mine.Internal.PV.casesOn<;>first|exact⟨_,rfl,h⟩|exact h.elim
def cT:PV→(List PV→Prop)→Prop
 | .tup i,K=>K i
 |_,_=>False
theorem Wy {p:PV}{K:List PV→Prop}(h:cT p K):∃i,p= .tup i∧K i:=by induction p using Mine.Internal.PV.casesOn<;>first|exact⟨_,rfl,h⟩|exact h.elim
def bH:PV→(Str→Prop)→Prop
 | .str i,K=>K i
 |_,_=>False
theorem SH {p:PV}{K:Str→Prop}(h:bH p K):∃i,p= .str i∧K i:=by induction p using Mine.Internal.PV.casesOn<;>first|exact⟨_,rfl,h⟩|exact h.elim
def Y3:PV→(Addr→Prop)→Prop
 | .loc i,K=>K i
 |_,_=>False
theorem Ii {p:PV}{K:Addr→Prop}(h:Y3 p K):∃i,p= .loc i∧K i:=by induction p using Mine.Internal.PV.casesOn<;>first|exact⟨_,rfl,h⟩|exact h.elim
def bI:PV→Prop→Prop
 | .none,P=>P
 |_,_=>False
theorem SI {p:PV}{P:Prop}(h:bI p P):p= .none∧P:=by induction p using Mine.Internal.PV.casesOn<;>first|exact⟨rfl,h⟩|exact h.elim
def bJ:Ac→(Addr→Prop)→Prop
 | .ref l,K=>K l
 |_,_=>False
theorem PL {v:Ac}{K:Addr→Prop}(h:bJ v K):∃i,v= .ref i∧K i:=by induction v using Ev<;>first|exact⟨_,rfl,h⟩|exact h.elim
def Ni:Option PO→(List PV→Prop)→(List (PV×PV)→Nat→Prop)→Prop
 |some (.list vs),K,_=>K vs
 |some (.dict es n),_,K=>K es n
 |_,_,_=>False
theorem Hf {o:Option PO}{K:List PV→Prop}{L:List (PV×PV)→Nat→Prop}(h:Ni o K L):(∃vs,o=some (.list vs)∧K vs)∨∃es n,o=some (.dict es n)∧L es n:=by
 induction o using Bq with
 |none=>exact h.elim
 |some o=>induction o using Mine.Internal.PO.casesOn<;>first|exact .inl ⟨_,rfl,h⟩|exact .inr ⟨_,_,rfl,h⟩|exact h.elim
def oL:Option PO→(List PV→Prop)→Prop
 |some (.list vs),K=>K vs
 |_,_=>False
theorem Kn {o:Option PO}{K:List PV→Prop}(h:oL o K):∃vs,o=some (.list vs)∧K vs:=by
 induction o using Bq with
 |none=>exact h.elim
 |some o=>induction o using Mine.Internal.PO.casesOn<;>first|exact⟨_,rfl,h⟩|exact h.elim
def Zg:Option PO→(List PV→Prop)→Prop
 |some (.list vs),K=>K vs
 |some (.set vs),K=>K vs
 |_,_=>False
theorem SJ {o:Option PO}{K:List PV→Prop}(h:Zg o K):∃vs,(o=some (.list vs)∨o=some (.set vs))∧K vs:=by
 induction o using Bq with
 |none=>exact h.elim
 |some o=>induction o using Mine.Internal.PO.casesOn<;>first|exact⟨_, .inl rfl,h⟩|exact⟨_, .inr rfl,h⟩|exact h.elim
def oA:Option PO→(List (PV×PV)→Prop)→Prop
 |some (.attrs vs),K=>K vs
 |_,_=>False
theorem Rx {o:Option PO}{K:List (PV×PV)→Prop}(h:oA o K):∃vs,o=some (.attrs vs)∧K vs:=by
 induction o using Bq with
 |none=>exact h.elim
 |some o=>induction o using Mine.Internal.PO.casesOn<;>first|exact⟨_,rfl,h⟩|exact h.elim
def x0:List PV→Prop→Prop
 |[],P=>P
 |_,_=>False
theorem Y4 {ps:List PV}{P:Prop}(h:x0 ps P):ps=[]∧P:=by
 induction ps using Az with
 |nil=>exact⟨rfl,h⟩
 |cons=>exact h.elim
def x1:List PV→(PV→Prop)→Prop
 |[p],K=>K p
 |_,_=>False
theorem PM {ps:List PV}{K:PV→Prop}(h:x1 ps K):∃p,ps=[p]∧K p:=by
 rcases ps with _|⟨p,_|_⟩
 ·exact h.elim
 ·exact⟨_,rfl,h⟩
 ·exact h.elim
def x2:List PV→(PV→PV→Prop)→Prop
 |[p,q],K=>K p q
 |_,_=>False
theorem UH {ps:List PV}{K:PV→PV→Prop}(h:x2 ps K):∃p q,ps=[p,q]∧K p q:=by
 rcases ps with _|⟨p,_|⟨q,_|_⟩⟩
 ·exact h.elim
 ·exact h.elim
 ·exact Gn _ _ rfl h
 ·exact h.elim
@[reducible] noncomputable def cU (o:Option PV)(K:PV→Prop):Prop:=∃p,o=some p∧K p
@[reducible] noncomputable def eD (o:Option Nat)(K:PV→Prop):Prop:=∃c,o=some c∧K (.str ⟨#[c]⟩)
abbrev QE:=PV→AH→Prop
def kP (Q:QE)(H:AH)(p:PV):Prop:=Q p H
def eE (Q:QE)(H:AH)(b:Bool):Prop:=Q (.bool (!b)) H
def Zy (K:Bool→Prop)(b:Bool):Prop:=K (!b)
def N2:Option PO→Option (List PV)
 |some (.list vs)=>some vs
 |_=>none
theorem Lj {o:Option PO}{vs:List PV}(h:N2 o=some vs):o=some (.list vs):=by
 induction o using Bq with
 |none=>cases h
 |some o=>induction o using Mine.Internal.PO.casesOn<;>first|(cases h;rfl)|cases h
def IE (a:Addr):Option (Addr×List PV)→Option (List PV)
 |some (b,vs)=>if a=b then some vs else none
 |none=>none
theorem Tv {a:Addr}{o:Option (Addr×List PV)}{vs:List PV}(h:IE a o=some vs):o=some (a,vs):=by
 induction o using Bq with
 |none=>cases h
 |some o=>
  have h:(if a=o.1 then some o.2 else none)=some vs:=h
  by_cases c:a=o.1
  ·rw[if_pos c] at h;cases h;rw[c] at ⊢
  ·rw[if_neg c] at h;cases h
def Tw:PV→AH→Option (List PV)
 | .tup vs,_=>some vs
 | .loc a,H=>N2 (H a)
 |_,_=>none
def bK (H:AH)(Q:QE)(xs ys:List PV):Prop:=xs.length≤100000∧ys.length≤100000∧∀c,H c=none→Q (.loc c) (H.set c (.list (xs++ys)))
def Zz (H:AH)(Q:QE)(o:Option PO)(xs:List PV):Prop:=oL o (bK H Q xs)
def bL (b:PV)(H:AH)(Q:QE):PV→Prop
 | .int x=>vI b fun y=>Q (.int (x+y)) H
 | .tup xs=>cT b fun ys=>xs.length≤100000∧ys.length≤100000∧Q (.tup (xs++ys)) H
 | .str x=>bH b fun y=>1≤x.length∧1≤y.length∧x.length≤1000∧y.length≤1000∧Q (.str (x++y)) H
 | .loc l=>Y3 b fun m=>oL (H l) (Zz H Q (H m))
 |_=>False
def ZA (n:Int)(H:AH)(Q:QE)(xs:List PV):Prop:=xs.length≤1000∧0≤n∧n≤1000∧∀c,H c=none→Q (.loc c) (H.set c (.list (Cw n.toNat xs).flatten))
def bM (b:PV)(H:AH)(Q:QE):PV→Prop
 | .int x=>vI b fun y=>room x∧room y∧Q (.int (x*y)) H
 | .loc l=>vI b fun n=>oL (H l) (ZA n H Q)
 |_=>False
def UI:Operator→PV→PV→AH→QE→Prop
 | .Add,a,b,H,Q=>bL b H Q a
 | .Sub,a,b,H,Q=>vI a fun x=>vI b fun y=>Q (.int (x-y)) H
 | .Mult,a,b,H,Q=>bM b H Q a
 | .FloorDiv,a,b,H,Q=>vI a fun x=>vI b fun y=>0<y∧y<1000000∧Q (.int (x.fdiv y)) H
 | .Mod,a,b,H,Q=>vI a fun x=>vI b fun y=>y≠0∧Q (.int (x.fmod y)) H
 |_,_,_,_,_=>False
def G7:PV→(Bool→Prop)→Prop
 | .none,K=>K false
 | .bool b,K=>K b
 |_,_=>False
def b6:UnaryOp→PV→AH→QE→Prop
 | .Not,p,H,Q=>G7 p (eE Q H)
 | .USub,p,H,Q=>vI p fun i=>Q (.int (-i)) H
 |_,_,_,_=>False
def cV (K:Bool→Prop)(xs ys:List PV):Prop:=C9 xs=true∧C9 ys=true∧B_ xs≤100∧B_ ys≤100∧K (decide (xs=ys))
def Tx (o:Option PO)(K:Bool→Prop):Option (List PV)→Prop
 |some xs=>oL o (cV K xs)
 |none=>False
def Ty (a b:PV)(K:Bool→Prop):Prop:=a.data=true∧b.data=true∧a.deep≤100∧b.deep≤100∧K (decide (a=b))
def bN (X:Ctx)(b:PV)(H:AH)(K:Bool→Prop):PV→Prop
 | .loc l=>Y3 b fun m=>Tx (H m) K (N2 (H l))
 | .raw v=>bJ v fun l=>Y3 b fun m=>Tx (H m) K (IE l X.lst)
 | .none=>Ty .none b K
 | .int i=>Ty (.int i) b K
 | .str x=>Ty (.str x) b K
 | .tup ps=>Ty (.tup ps) b K
 |_=>False
def b7 (a:PV)(K:Bool→Prop)(vs:List PV):Prop:=a.data=true∧C9 vs=true∧a.deep≤100∧B_ vs≤100∧K (decide (a∈vs))
def bO (a:PV)(K:Bool→Prop)(es:List (PV×PV))(_:Nat):Prop:=Cz a∧Bw es∧K (EH a es).isSome
def bP (a:PV)(H:AH)(K:Bool→Prop):PV→Prop
 | .tup vs=>b7 a K vs
 | .loc l=>Ni (H l) (b7 a K) (bO a K)
 | .str y=>bH a fun x=>K (!(EY y x 0 y.length 1).isEmpty)
 |_=>False
def bQ (K:Bool→Prop):PV→Prop
 | .none=>K true
 | .tup _=>K false
 | .int _=>K false
 | .loc _=>K false
 |_=>False
def Qw (X:Ctx):CmpOp→PV→PV→AH→(Bool→Prop)→Prop
 | .Eq,a,b,H,K=>bN X b H K a
 | .NotEq,a,b,H,K=>bN X b H (Zy K) a
 | .Lt,a,b,_,K=>vI a fun x=>vI b fun y=>K (decide (x<y))
 | .LtE,a,b,_,K=>vI a fun x=>vI b fun y=>K (decide (x≤y))
 | .Gt,a,b,_,K=>vI a fun x=>vI b fun y=>K (decide (y<x))
 | .GtE,a,b,_,K=>vI a fun x=>vI b fun y=>K (decide (y≤x))
 | .In,a,b,H,K=>bP a H K b
 | .NotIn,a,b,H,K=>bP a H (Zy K) b
 | .Is,a,b,_,K=>bI b (bQ K a)
 | .IsNot,a,b,_,K=>bI b (bQ (Zy K) a)
def Nr:Const→(PV→Prop)→Prop
 | .none,K=>K .none
 | .bool b,K=>K (.bool b)
 | .int i,K=>K (.int i)
 | .str x,K=>K (.str x)
 |_,_=>False
def b8 (X:Ctx)(m:LM)(x:Str):Option NameKind→Option PV
 |some .globalImplicit=>X.glob x
 |some .local=>lk x m
 |some .cell=>lk x m
 |some .free=>lk x m
 |_=>none
def Y5 (X:Ctx)(sc:SC)(m:LM)(x:Str):Option PV:=bif same x "__debug__"||same x "__classdict__" then none else b8 X m x (kd x sc)
def FR (X:Ctx)(sc:SC)(m:LM)(x:Str)(K:PV→Prop):Prop:=Zx (Y5 X sc m x) K
theorem Tz {X:Ctx}{sc:SC}{m:LM}{x:Str}{K:PV→Prop}(h:FR X sc m x K):x≠"__debug__"∧x≠"__classdict__"∧∃p,b8 X m x (kd x sc)=some p∧K p:=by
 unfold FR Y5 at h
 cases c:(same x "__debug__"||same x "__classdict__") with
 |true=>rw[c] at h;exact h.elim
 |false=>
  rw[c] at h
  have c:=Jo.mp c
  refine⟨fun e=>?_,fun e=>?_,?_⟩
  ·exact AD (c.1.symm.trans (F1.mpr e))
  ·exact AD (c.2.symm.trans (F1.mpr e))
  ·have h:Zx (b8 X m x (kd x sc)) K:=h
   cases e:b8 X m x (kd x sc) with
   |none=>rw[e] at h;exact h.elim
   |some p=>rw[e] at h;exact⟨p,rfl,h⟩
def UJ (K:PV→Prop)(vs:List PV)(k:Int):Prop:=0≤k∧k<2 ^ 62∧cU vs[k.toNat]? K
def Xq (i:PV)(K:PV→Prop)(es:List (PV×PV))(_:Nat):Prop:=Cz i∧Bw es∧cU (EH i es) K
def P8 (i:PV)(H:AH)(K:PV→Prop):PV→Prop
 | .tup vs=>vI i (UJ K vs)
 | .str x=>vI i fun k=>0≤k∧k<2 ^ 62∧eD x.cps.toList[k.toNat]? K
 | .loc l=>Ni (H l) (fun vs=>vI i (UJ K vs)) (Xq i K)
 |_=>False
def ZB (l:Addr)(v:PV)(H:AH)(K:AH→Prop)(vs:List PV)(k:Int):Prop:=0≤k∧k<2 ^ 62∧k.toNat<vs.length∧vs.length≤100000∧K (H.set l (.list (vs.set k.toNat v)))
def ZC (l:Addr)(i v:PV)(H:AH)(K:AH→Prop)(es:List (PV×PV))(n:Nat):Prop:=Cz i∧Bw es∧K (H.set l (.dict (put i v es) (if(EH i es).isSome then n else n+1)))
def Ja (p i v:PV)(H:AH)(K:AH→Prop):Prop:=Y3 p fun l=>Ni (H l) (fun vs=>vI i (ZB l v H K vs)) (ZC l i v H K)
theorem Ry {X:Ctx}{sc:SC}{m:LM}{x:Str}{K K':PV→Prop}(h:FR X sc m x K)(q:∀p,K p→K' p):FR X sc m x K':=by
 unfold FR at h ⊢
 cases e:Y5 X sc m x with
 |none=>rw[e] at h;exact h.elim
 |some p=>rw[e] at h;exact q p h
def Uw (x:Str):List (PV×PV)→Option PV
 |[]=>none
 |(.str y,v)::r=>bif same y x then some v else Uw x r
 |_::r=>Uw x r
def TA (x:Str)(v:PV):List (PV×PV)→List (PV×PV)
 |[]=>[(.str x,v)]
 |(.str y,u)::r=>bif same y x then(.str y,v)::r else(.str y,u)::TA x v r
 |q::r=>q::TA x v r
theorem JG {x:Str}:∀{es:List (PV×PV)},Uw x es=EH (.str x) es
 |[]=>rfl
 |(k,v)::r=>by
  rewrite[HR]
  induction k using Mine.Internal.PV.casesOn with
  |str y=>
   show(bif same y x then some v else Uw x r)=_
   rw[Gw,JG] at ⊢
   by_cases c:y=x
   ·rw[if_pos c,if_pos (congrArg PV.str c)] at ⊢
   ·rw[if_neg c,if_neg (fun e=>c (PV.str.inj e))] at ⊢
  |_=>rw[if_neg nofun] at ⊢;exact JG (es:=r)
theorem Nt {x:Str}{v:PV}:∀{es:List (PV×PV)},TA x v es=put (.str x) v es
 |[]=>rfl
 |(k,u)::r=>by
  rewrite[Li]
  induction k using Mine.Internal.PV.casesOn with
  |str y=>
   show(bif same y x then(PV.str y,v)::r else(.str y,u)::TA x v r)=_
   rw[Gw,Nt] at ⊢
   by_cases c:y=x
   ·rw[if_pos c,if_pos (congrArg PV.str c)] at ⊢
   ·rw[if_neg c,if_neg (fun e=>c (PV.str.inj e))] at ⊢
  |_=>rw[if_neg nofun] at ⊢;exact congrArg _ (Nt (es:=r))
def ZD (name:Str)(K:PV→Prop)(es:List (PV×PV)):Prop:=Zx (Uw name es) K
def SK (X:Ctx)(name:Str)(H:AH)(K:PV→Prop):PV→Prop
 | .inst C _ d=>gd (X.fld C name) (oA (H d) (ZD name K))
 |_=>False
def ZE (d:Addr)(name:Str)(v:PV)(H:AH)(K:AH→Prop)(es:List (PV×PV)):Prop:=es.length≤100∧HP v=true∧K (H.set d (.attrs (TA name v es)))
def Lk (X:Ctx)(name:Str)(v:PV)(H:AH)(K:AH→Prop):PV→Prop
 | .inst C _ d=>gd (X.fld C name) (oA (H d) (ZE d name v H K))
 |_=>False
inductive Sl where
 |from(k:Nat)|upto (k:Nat)|rev
def cW (H:AH)(Q:QE)(vs:List PV):Sl→Prop
 | .upto k=>vs.length≤100000∧∀c,H c=none→Q (.loc c) (H.set c (.list (vs.take k)))
 | .rev=>vs.length≤100000∧∀c,H c=none→Q (.loc c) (H.set c (.list vs.reverse))
 |_=>False
def Hg (sl:Sl)(H:AH)(Q:QE):Option (List PV)→Prop
 |some vs=>cW H Q vs sl
 |none=>False
def cX (H:AH)(Q:QE)(vs:List PV):Sl→Prop
 | .from k=>vs.length≤100000∧1≤k∧k≤vs.length∧Q (.tup (vs.drop k)) H
 | .upto k=>vs.length≤100000∧k<vs.length∧Q (.tup (vs.take k)) H
 | .rev=>False
def Ko (X:Ctx)(sl:Sl)(H:AH)(Q:QE):PV→Prop
 | .tup vs=>cX H Q vs sl
 | .loc l=>Hg sl H Q (N2 (H l))
 | .raw v=>bJ v fun l=>Hg sl H Q (IE l X.lst)
 |_=>False
def bR (a:Addr)(vs:List PV)(H:AH):Prop:=H a=some (.list vs)
def bS (a:Addr)(es:List (PV×PV))(n:Nat)(H:AH):Prop:=H a=some (.dict es n)
def Xr (_:AH):Prop:=True
abbrev QI:=(AH→Prop)→List PV→Prop
def bT (a:Addr)(K:QI)(vs:List PV):Prop:=vs.length≤100000∧K (bR a vs) vs
def bU (a:Addr)(K:QI)(es:List (PV×PV))(n:Nat):Prop:=es.length≤100000∧K (bS a es n) (es.map (·.1))
def IF (H:AH)(K:QI):PV→Prop
 | .tup vs=>vs.length≤100000∧K Xr vs
 | .rng lo hi=>small lo∧small hi∧K Xr ((Am (hi-lo).toNat).map fun i=> .int (lo+BQ i))
 | .str x=>x.length≤1000∧x.cps.all (· <128)=true∧K Xr (x.cps.toList.map fun c=> .str ⟨#[c]⟩)
 | .loc a=>Ni (H a) (bT a K) (bU a K)
 |_=>False
def Dn:List PV→Option (List Int)
 |[]=>some []
 | .int i::r=>(Dn r).map (i::·)
 |_::_=>none
mutual
noncomputable def Wq:PV→PV→Bool
 | .int x, .int y=>decide (x<y)
 | .str x, .str y=>decide (x.cps.toList<y.cps.toList)
 | .tup ps, .tup qs=>OQ ps qs
 |_,_=>false
noncomputable def OQ:List PV→List PV→Bool
 |[],[]=>false
 |[],_::_=>true
 |_::_,[]=>false
 |p::ps,q::qs=>if p=q then OQ ps qs else Wq p q
end
def Ll (p:PV):Prop:=∃x r,p= .tup (.str x::r)∧∀q∈r,∃i,q= .int i
def FS (vs:List PV):Prop:=vs.length<64∧C9 vs=true∧B_ vs≤7∧((∀p∈vs,∃i,p= .int i)∨∀p∈vs,Ll p)
def FT (ws:List PV):Prop:=ws.Pairwise fun p q=>Wq q p=false
def Ed:List PV→Option (List (PV×PV))
 |[]=>some []
 | .tup [a,b]::r=>(Ed r).map ((a,b)::·)
 |_::_=>none
def E1:List (PV×PV)→List (PV×PV)→List (PV×PV)
 |[],es=>es
 |(k,v)::r,es=>E1 r (put k v es)
def Y6 (K:PV→Prop)(vs:List PV):Prop:=vs.length≤100000∧K (.int vs.length)
def ZF (H:AH)(K:PV→Prop):PV→Prop
 | .tup vs=>Y6 K vs
 | .loc l=>Zg (H l) (Y6 K)
 |_=>False
def Nu (H:AH)(Q:QE)(vs:List PV):Prop:=
 FS vs∧∀ws,ws.Perm vs→FT ws→∀c,H c=none→Q (.loc c) (H.set c (.list ws))
def UK (K:PV→Prop):Option (List Int)→Prop
 |some is=>is.length≤100000∧K (.int is.sum)
 |none=>False
def UL (K:PV→Prop):Option (List Int)→Prop
 |some (i::is)=>is.length≤90000∧K (.int (is.foldl max i))
 |_=>False
def ZG (K:PV→Prop)(vs:List PV):Prop:=UK K (Dn vs)
def ZH (K:PV→Prop)(vs:List PV):Prop:=UL K (Dn vs)
def Y7 (H:AH)(Q:QE)(vs:List PV):Prop:=vs.length≤100000∧Q (.tup vs) H
def SL (vs:List PV):Prop:=(∀p∈vs,∃i,p= .int i)∨∀p∈vs,∃ps,p= .tup ps
def ZI (H:AH)(Q:QE)(vs:List PV):Prop:=
 vs.length≤18∧C9 vs=true∧B_ vs≤7∧SL vs∧∀ws:List PV,ws.Nodup→(∀x,x∈ws↔x∈vs)→∀c,H c=none→Q (.loc c) (H.set c (.set ws))
def UM (H:AH)(Q:QE):Option (List (PV×PV))→Prop
 |some ps=>C9 (ps.map (·.1))=true∧B_ (ps.map (·.1))≤7∧(∀q∈ps,b5 q.1=true)∧ps.length≤10000∧∀c n,H c=none→Q (.loc c) (H.set c (.dict (E1 ps []) n))
 |none=>False
def ZJ (H:AH)(Q:QE)(vs:List PV):Prop:=UM H Q (Ed vs)
def UN (H:AH)(Q:QE):List PV→Prop
 |[p]=>vI p fun n=>small n∧Q (.rng 0 n) H
 |[p,q]=>vI p fun a=>vI q fun n=>small a∧small n∧Q (.rng a n) H
 |_=>False
def ZK (H:AH)(Q:QE):PV→Prop
 | .tup vs=>Q (.tup vs) H
 | .loc l=>oL (H l) (Y7 H Q)
 |_=>False
def ZL (X:Ctx)(H:AH)(Q:QE):PV→Prop
 | .rng a n=>X.exc=none∧small a∧small n∧n-a≤1000∧∀c,H c=none→Q (.loc c) (H.set c (.list ((Am (n-a).toNat).map fun i=> .int (a+BQ i))))
 |_=>False
def ZM (H:AH)(Q:QE):PV→Prop
 | .int i=>Q (.int i) H
 | .bool c=>Q (.int (if c then 1 else 0)) H
 |_=>False
def Zh (H:AH)(K:List PV→Prop)(p:PV):Prop:=Y3 p fun l=>oL (H l) K
def eG (H:AH)(K:List PV→Prop)(p:PV):Prop:=Y3 p fun l=>Zg (H l) K
def bV (H:AH)(Q:QE)(p:PV):Prop:=vI p fun i=>Q (.int (BQ i.natAbs)) H
def bW (H:AH)(Q:QE)(p:PV):Prop:=vI p fun i=>small i∧Q (.str (A8 (toString i))) H
def ZN (X:Ctx):BI→List PV→AH→QE→Prop
 | .len,ps,H,Q=>x1 ps (ZF H (kP Q H))
 | .range,ps,H,Q=>UN H Q ps
 | .sorted,ps,H,Q=>x1 ps (eG H (Nu H Q))
 | .sum,ps,H,Q=>x1 ps (Zh H (ZG (kP Q H)))
 | .max,ps,H,Q=>x1 ps (Zh H (ZH (kP Q H)))
 | .tuple,ps,H,Q=>x1 ps (ZK H Q)
 | .list,ps,H,Q=>x1 ps (ZL X H Q)
 | .set,ps,H,Q=>x1 ps (Zh H (ZI H Q))
 | .dict,ps,H,Q=>x1 ps (Zh H (ZJ H Q))
 | .int,ps,H,Q=>x1 ps (ZM H Q)
 | .abs,ps,H,Q=>x1 ps (bV H Q)
 | .str,ps,H,Q=>x1 ps (bW H Q)
 |_,_,_,_=>False
def P9 (X:Ctx)(d:Nat)(ps:List PV)(H:AH)(Q:QE):PV→Prop
 | .bi b=>ZN X b ps H Q
 | .raw v=>Bz X d (.raw v) ps H Q
 |_=>False
def ZO (l:Addr)(vs:List PV)(H:AH)(Q:QE)(ws:List PV):Prop:=vs.length≤100000∧ws.length≤100000∧Q .none (H.set l (.list (vs++ws)))
def bX (l:Addr)(vs:List PV)(H:AH)(Q:QE)(v:PV):Prop:=vs.length≤100000∧Q .none (H.set l (.list (vs++[v])))
def Xs (l:Addr)(vs:List PV)(H:AH)(Q:QE):Option PV→Prop
 |some v=>vs.length≤100000∧Q v (H.set l (.list vs.dropLast))
 |none=>False
set_option genCtorIdx true in
inductive Meth where
 |append|extend|pop|get|setdefault|other
def IG (x:Str):Meth:=bif same x "append" then .append else bif same x "extend" then .extend else bif same x "pop" then .pop else bif same x "get" then .get else bif same x "setdefault" then .setdefault else .other
def UO (l:Addr)(vs ps:List PV)(H:AH)(Q:QE):Meth→Prop
 | .append=>x1 ps (bX l vs H Q)
 | .extend=>x1 ps (Zh H (ZO l vs H Q))
 | .pop=>x0 ps (Xs l vs H Q vs.getLast?)
 |_=>False
def ZP (l:Addr)(es:List (PV×PV))(n:Nat)(k v:PV)(H:AH)(Q:QE):Option PV→Prop
 |some u=>Q u H
 |none=>Q v (H.set l (.dict (es++[(k,v)]) (n+1)))
def bY (l:Addr)(es:List (PV×PV))(n:Nat)(k:PV)(H:AH)(Q:QE):Option PV→Prop
 |some u=>Q u (H.set l (.dict (Wp k es) (n+1)))
 |none=>False
def ZQ (es:List (PV×PV))(H:AH)(Q:QE)(k v:PV):Prop:=Cz k∧Bw es∧Q ((EH k es).getD v) H
def ZR (l:Addr)(es:List (PV×PV))(n:Nat)(H:AH)(Q:QE)(k v:PV):Prop:=Cz k∧Bw es∧ZP l es n k v H Q (EH k es)
def ZS (l:Addr)(es:List (PV×PV))(n:Nat)(H:AH)(Q:QE)(k:PV):Prop:=Cz k∧Bw es∧bY l es n k H Q (EH k es)
def UP (l:Addr)(es:List (PV×PV))(n:Nat)(ps:List PV)(H:AH)(Q:QE):Meth→Prop
 | .get=>x2 ps (ZQ es H Q)
 | .setdefault=>x2 ps (ZR l es n H Q)
 | .pop=>x1 ps (ZS l es n H Q)
 |_=>False
def cY (X:Ctx)(d:Nat)(f:Addr)(p:PV)(Q:QE)(ps:List PV)(H:AH):Prop:=Bz X d (.raw (.ref f)) (p::ps) H Q
abbrev AR:=(List PV→AH→Prop)→Prop
def cZ (X:Ctx)(d:Nat)(p:PV)(name:Str)(args:AR)(Q:QE)(f:Addr)(es:List (PV×PV)):Prop:=gd (Uw name es).isNone (args (cY X d f p Q))
def Rz (X:Ctx)(d:Nat)(p:PV)(name:Str)(args:AR)(Q:QE)(o:Option PO):Option Addr→Prop
 |some f=>oA o (cZ X d p name args Q f)
 |none=>False
def c_ (mm:Meth)(l:Addr)(ps:List PV)(H:AH)(Q:QE)(vs:List PV):Prop:=UO l vs ps H Q mm
def d3 (mm:Meth)(l:Addr)(ps:List PV)(H:AH)(Q:QE)(es:List (PV×PV))(n:Nat):Prop:=UP l es n ps H Q mm
def d4 (_:List PV):Prop:=False
def d5 (_:List (PV×PV))(_:Nat):Prop:=False
def b9 (mm:Meth)(l:Addr)(Q:QE)(ps:List PV)(H:AH):Prop:=Ni (H l) (c_ mm l ps H Q) d5
def ba (mm:Meth)(l:Addr)(Q:QE)(ps:List PV)(H:AH):Prop:=Ni (H l) d4 (d3 mm l ps H Q)
def UQ:Meth→Bool
 | .append=>true
 | .extend=>true
 | .pop=>true
 |_=>false
def UR:Meth→Bool
 | .get=>true
 | .setdefault=>true
 | .pop=>true
 |_=>false
def bZ (l:Addr)(mm:Meth)(args:AR)(Q:QE)(_:List PV):Prop:=gd (UQ mm) (args (b9 mm l Q))
def b_ (l:Addr)(mm:Meth)(args:AR)(Q:QE)(_:List (PV×PV))(_:Nat):Prop:=gd (UR mm) (args (ba mm l Q))
def cb (x:Str)(Q:QE)(ps:List PV)(H:AH):Prop:=ps=[]∧∃c,x=⟨#[c]⟩∧c∈([97,98,102,103]:List Nat)∧Q (.bool false) H
def Pb (X:Ctx)(d:Nat)(name:Str)(H:AH)(args:AR)(Q:QE):PV→Prop
 | .inst C a dd=>Rz X d (.inst C a dd) name args Q (H dd) (X.meth C name)
 | .loc l=>Ni (H l) (bZ l (IG name) args Q) (b_ l (IG name) args Q)
 | .str x=>gd (same name "isspace") (args (cb x Q))
 |_=>False
def Wz (f:Fl)(go brk:Prop)(ret:PV→Prop):Prop:=match f with
 | .next=>go
 | .cont=>go
 | .brk=>brk
 | .ret p=>ret p
def Hh (ok:AH→Prop)(asg:PV→LM→AH→(LM→AH→Prop)→Prop)(body:LM→AH→(Fl→LM→AH→Prop)→Prop):
  List PV→LM→AH→(Fl→LM→AH→Prop)→Prop
 |[],m,H,Q=>ok H∧Q .next m H
 |x::xs,m,H,Q=>ok H∧asg x m H fun m H=>body m H fun f m H=>Wz f (Hh ok asg body xs m H Q) (Q .next m H) fun p=>Q (.ret p) m H
def Fu (ok:AH→Prop)(asg:PV→LM→AH→(LM→AH→Prop)→Prop)(elt:List PV→LM→AH→(List PV→LM→AH→Prop)→Prop):
  List PV→List PV→LM→AH→(List PV→LM→AH→Prop)→Prop
 |[],acc,m,H,K=>ok H∧K acc m H
 |x::xs,acc,m,H,K=>ok H∧asg x m H fun m H=>elt acc m H fun acc m H=>Fu ok asg elt xs acc m H K
def Ij (test:LM→AH→(Bool→AH→Prop)→Prop)(body:LM→AH→(Fl→LM→AH→Prop)→Prop):
  Nat→LM→AH→(Fl→LM→AH→Prop)→Prop
 |0,_,_,_=>False
 |n+1,m,H,Q=>test m H fun b H=>if b then body m H fun f m H=>Wz f (Ij test body n m H Q) (Q .next m H) fun p=>Q (.ret p) m H
  else Q .next m H
def SN:Option NameKind→Bool
 |none=>true
 |_=>false
def d6:Option NameKind→Bool
 |some .cell=>true
 |some .free=>true
 |_=>false
def cf:Option NameKind→Bool
 |some .local=>true
 |_=>false
def bf:Option NameKind→Bool
 |some .local=>true
 |some .cell=>true
 |_=>false
def ZT:Option NameKind→Bool
 |some .globalImplicit=>true
 |_=>false
def Fz:SC→SC→Bool
 |[],_=>true
 |(n, .local)::r,sc=>SN (kd n r)&&Fz r sc
 |(n, .free)::r,sc=>SN (kd n r)&&(d6 (kd n sc)&&Fz r sc)
 |(n, .globalImplicit)::r,sc=>SN (kd n r)&&Fz r sc
 |_,_=>false
theorem M9 {k:Option NameKind}(h:SN k=true):k=none:=by
 induction k using Bq with
 |none=>rfl
 |some k=>cases h
theorem WA {k:Option NameKind}(h:d6 k=true):k=some .cell∨k=some .free:=by
 induction k using Bq with
 |none=>cases h
 |some k=>induction k using Bd<;>first|exact .inl rfl|exact .inr rfl|cases h
theorem SO {k:Option NameKind}(h:bf k=true):k=some .local∨k=some .cell:=by
 induction k using Bq with
 |none=>cases h
 |some k=>induction k using Bd<;>first|exact .inl rfl|exact .inr rfl|cases h
theorem SP {k:Option NameKind}(h:cf k=true):k=some .local:=by
 induction k using Bq with
 |none=>cases h
 |some k=>induction k using Bd<;>first|rfl|cases h
def Dw:SC→LM
 |[]=>[]
 |(n, .local)::r=>(n,none)::Dw r
 |_::r=>Dw r
def Kq:Expr→Bool
 | .Starred .. =>true
 |_=>false
def EI:List Expr→Bool
 |[]=>true
 |e::r=> !Kq e&&EI r
def Qx {α:Type}:List α→Nat→Bool
 |[],_=>true
 |_::_,0=>false
 |_::r,n+1=>Qx r n
theorem Ma {α:Type}:∀{l:List α} {n:Nat},Qx l n=true→l.length≤n
 |[],_,_=>AM _
 |_::_,0,h=>nomatch h
 |_::r,n+1,h=>CF (Ma (l:=r) h)
def Zi (es:List Expr):Bool:=EI es&&Qx es 5
theorem Ee {es:List Expr}(h:Zi es=true):EI es=true∧es.length≤5:=⟨(Ae.mp h).1,Ma (Ae.mp h).2⟩
def Jb:Expr→Bool
 | .Set .. =>true
 |_=>false
def kI:Const→Option Int
 | .int k=>some k
 |_=>none
theorem Y8 {c:Const}{k:Int}(h:kI c=some k):c= .int k:=by induction c using Gj<;>first|exact CC h|exact congrArg Const.int (Ai h)
def ZU:Expr→Option Int
 | .Constant c _ _=>kI c
 |_=>none
theorem PN {e:Expr}{k:Int}(h:ZU e=some k):∃a b,e= .Constant (.int k) a b:=by
 induction e using AA with
 |Constant c a b=>exact Wx _ _ (congrArg (Expr.Constant · a b) (Y8 h))
 |_=>exact CC h
def SQ:UnaryOp→Bool
 | .USub=>true
 |_=>false
theorem TD {o:UnaryOp}(h:SQ o=true):o= .USub:=by induction o using Da<;>first|rfl|exact FI h
def bh:Expr→Option Int
 | .UnaryOp op e _=>bif SQ op then ZU e else none
 |_=>none
theorem WB {e:Expr}{k:Int}(h:bh e=some k):∃a b c,e= .UnaryOp .USub (.Constant (.int k) a b) c:=by
 induction e using AA with
 |UnaryOp op e p=>
  replace h:(bif SQ op then ZU e else none)=some k:=h
  cases q:SQ op with
  |true=>
   rw[q] at h
   obtain ⟨a,b,z⟩:=PN h
   rw[TD q,z] at ⊢
   exact bv _ _ _ rfl
  |false=>rw[q] at h;exact CC h
 |_=>exact CC h
def cj (f:Nat→Sl):Option Int→Option Sl
 |some (.ofNat k)=>some (f k)
 |_=>none
def d7:Option Int→Option Sl
 |some k=>bif k == 1 then some .rev else none
 |none=>none
def ck:Option Expr→Option Expr→Option Expr→Option Sl
 |some e,none,none=>cj .from (ZU e)
 |none,some e,none=>cj .upto (ZU e)
 |none,none,some e=>d7 (bh e)
 |_,_,_=>none
def ED:Expr→Option Sl
 | .Slice a b c _=>ck a b c
 |_=>none
end
section
theorem DJ.without {Pa:Params}{h:Heap}{P:Addr→Prop}(hP:∀a o,P a→h.get? a=some o→DQ o):∀{r:List (PV×PV)} {es:List DictEntry},DJ Pa h r es→DJ Pa (without h P) r es
 |[],[],_=>trivial
 |[],_::_,x=>x.elim
 |_::_,[],x=>x.elim
 |(_,_)::_,_::_,x=>⟨AP.without hP _ x.1,AP.without hP _ x.2.1,x.2.2.1,DJ.without hP x.2.2.2⟩
theorem Km.without {Pa:Params}{h:Heap}{P:Addr→Prop}(hP:∀a o,P a→h.get? a=some o→DQ o){p:PO}{o:Obj}(r:Km Pa h p o):Km Pa (without h P) p o:=by
 induction p using Mine.Internal.PO.casesOn with
 |list vs=>exact r.elim fun xs r=>r.elim fun n r=>⟨xs,n,r.1,AG.without hP _ r.2⟩
 |dict es n=>exact r.elim fun ds r=>⟨ds,r.1,DJ.without hP r.2⟩
 |attrs es=>exact r.elim fun ds r=>r.elim fun n r=>⟨ds,n,r.1,DJ.without hP r.2.1,r.2.2⟩
 |set vs=>
  refine Ux r fun es n t e f r1 l r=>?_
  exact r.elim fun ws r=>⟨es,n,t,e,f,r1,l,ws,r.1,AG.without hP _ r.2⟩
 |enum src=>exact r.elim fun l r=>r.elim fun it r=>r.elim fun n r=>⟨l,it,n,r.1,AP.without hP _ r.2⟩
theorem Own.shrink {X:Ctx}{h:Heap}{H:AH}{s:Ad}{P:Addr→Prop}(O:Own X h H s)(hP:∀a o,P a→h.get? a=some o→DQ o):Own X (without h P) H s:=
 ⟨fun b o e=>O.keep b o (Lg e).2,fun a po e=>by
  refine Aw (O.cell a po e) fun n zr=>?_;refine AB zr fun o g r=>?_;clear zr
  refine⟨?_,o,g,r.without hP⟩
  by_cases y:P a
  ·exact CD _ _ y
  ·rw[CH _ _ y];exact n,O.gens,O.os,O.lo,O.hi⟩
structure St (X:Ctx)(h:Heap)(env:Env)(wr:Bool)(pv:List (Addr×Obj))(m:LM)(H:AH)(s:Ad):Prop where
 own:Own X h H s
 kind:env.scope.kind= .function
 glo:env.globals=mainGlobals
 bi:env.builtins=builtinsNs
 ns:∃mc,s.heap.Ns env.locals mc∧∀x v,lk x m=some v→env.kindOf x=some .local→∃c,mc x=some c∧AP h v c
 nsO:h.get? env.locals=none∧H env.locals=none
 cl:∀x v,lk x m=some v→(env.kindOf x=some .cell∨env.kindOf x=some .free)→∃c w,env.cells.lookup x=some c∧s.heap.IsCell c (some w)∧AP h v w
 clO:wr=true→∀x,env.kindOf x=some .cell→∃c v₀,env.cells.lookup x=some c∧s.heap.IsCell c v₀∧h.get? c=none∧H c=none∧c≠env.locals∧
  (∀y,y≠x→(env.kindOf y=some .cell∨env.kindOf y=some .free)→env.cells.lookup y≠some c)∧∀q∈pv,q.1≠c
 pvO:∀q∈pv,s.heap.get? q.1=some q.2∧h.get? q.1=none∧H q.1=none∧q.1≠env.locals∧DQ q.2
def K1 (env:Env)(wr:Bool)(pv:List (Addr×Obj))(a:Addr):Prop:=
 a=env.locals∨(wr=true∧∃x,env.kindOf x=some .cell∧env.cells.lookup x=some a)∨∃q∈pv,q.1=a
theorem Qy {h:Heap}{a:Addr}{m:Str→Option Ac}(n:h.Ns a m){o:Obj}(e:h.get? a=some o):DQ o:=by
 refine Qt n fun o' es ep g d uu=>?_;clear n
 rw[g] at e
 replace e:=Ai e;subst e
 refine⟨fun xs q=>?_,fun C d' q=>?_,fun vs q=>?_⟩<;>· rw[q] at d;cases d
theorem Nv {h:Heap}{a:Addr}{v:Option Ac}(n:h.IsCell a v){o:Obj}(e:h.get? a=some o):DQ o:=by
 refine AB n fun o' g d=>?_;clear n
 rw[g] at e
 replace e:=Ai e;subst e
 refine⟨fun xs q=>?_,fun C d' q=>?_,fun vs q=>?_⟩<;>· rw[q] at d;cases d
section
variable {X:Ctx}{h:Heap}{env:Env}{wr:Bool}{pv:List (Addr×Obj)}{m:LM}{H:AH}{s:Ad}
theorem St.mineAt (S:St X h env wr pv m H s){a:Addr}(y:K1 env wr pv a):H a=none∧h.get? a=none∧∃o,s.heap.get? a=some o∧DQ o:=by
 focus(revert y;refine fun zo=>Ap zo (fun z0=>?_) fun z0=>?_;rotate_left;clear zo;rcases z0 with⟨w,x,k,l⟩|⟨q,hq,rfl⟩;rotate_right;clear zo;subst z0)
 ·rcases S.ns with⟨mc,n,_⟩
  refine M7 (id n) fun o uu uu g uu=>?_
  exact⟨S.nsO.2,S.nsO.1,o,g,Qy n g⟩
 ·refine L8 (S.clO w x k) fun c v₀ l' ic hn Hn uu=>?_
  rw[l] at l'
  replace l':=Ai l';subst l'
  refine AB (id ic) fun o g uu=>?_
  exact⟨Hn,hn,o,g,Nv ic g⟩
 ·refine Eb (S.pvO q hq) fun g hn Hn uu pl=>?_
  exact⟨Hn,hn,q.2,g,pl⟩
theorem St.after (S:St X h env wr pv m H s){h₁:Heap}{H':AH}{s':Ad}(k:BH (Uv s H) h₁)(O:Own X h₁ H' s'):
  ∃h₂,BH h h₂∧St X h₂ env wr pv m H' s'∧∀p v,AP h₁ p v→AP h₂ p v:=by
 have pl:∀a o,K1 env wr pv a→h₁.get? a=some o→DQ o:=fun a o y e=>by
  refine Aw (S.mineAt y) fun Hn zr=>?_;refine Aw zr fun uu zr=>?_;refine AB zr fun o' g p=>?_;clear zr
  have:=k a o' (DS H Hn g)
  rw[this] at e;replace e:=Ai e;subst e;exact p
 have st:∀a o,H a=none→s.heap.get? a=some o→s'.heap.get? a=some o:=fun a o n g=>O.keep a o (k a o (DS H n g))
 have Hn':∀a o,H a=none→s.heap.get? a=some o→H' a=none:=fun a o n g=>by
  cases e:H' a with
  |none=>rfl
  |some po=>
   have:=(O.cell a po e).1
   rw[k a o (DS H n g)] at this;exact HJ this
 have kk:BH h (without h₁ (K1 env wr pv)):=fun b o e=>by
  have ny:¬K1 env wr pv b:=fun y=>by rw[(S.mineAt y).2.1] at e;exact CC e
  rw[CH _ _ ny]
  exact k b o (S.own.keepsFrz b o e)
 refine⟨without h₁ (K1 env wr pv),kk,⟨O.shrink pl,S.kind,S.glo,S.bi,?_,?_,?_,?_,?_⟩,fun p v r=>AP.without pl p r⟩
 ·rcases S.ns with⟨mc,n,r⟩
  refine Qt (id n) fun o es ep g d q=>?_
  refine⟨mc,⟨o,es,ep,st _ _ S.nsO.2 g,d,q⟩,fun x v e kx=>?_⟩
  refine AB (r x v e kx) fun c e1 r1=>?_
  exact⟨c,e1,AP.keeps kk _ r1⟩
 ·refine Aw (S.mineAt (.inl rfl)) fun uu zr=>?_;refine Aw zr fun uu zr=>?_;refine AB zr fun o g uu=>?_;clear zr
  exact⟨CD _ _ (.inl rfl),Hn' _ _ S.nsO.2 g⟩
 ·intro x v e kx
  refine Cv (S.cl x v e kx) fun c w l ic r=>?_
  refine AB (id ic) fun o g d=>?_
  have Hc:H c=none:=by
   cases q:H c with
   |none=>rfl
   |some po=>
    refine Aw (S.own.cell c po q) fun uu zr=>?_;refine AB zr fun o' g' r'=>?_;clear zr
    rw[g] at g'
    replace g':=Ai g';subst g'
    exfalso
    induction po using Mine.Internal.PO.casesOn with
    |list vs=>refine BT r' fun uu uu e' uu=>?_;clear r';rw[e'] at d;cases d
    |dict es n=>refine AB r' fun uu e' uu=>?_;clear r';rw[e'] at d;cases d
    |attrs es=>refine BT r' fun uu uu e' uu=>?_;clear r';rw[e'] at d;cases d
    |set vs=>refine M7 r' fun uu uu uu e' uu=>?_;clear r';rw[e'] at d;cases d
    |enum src=>refine M7 r' fun uu uu uu e' uu=>?_;clear r';rw[e'] at d;cases d
  exact FQ c w l ⟨o,st _ _ Hc g,d⟩ (AP.keeps kk _ r)
 ·intro w x kx
  refine L9 (S.clO w x kx) fun c v₀ l ic hn Hn ne ap pa=>?_
  refine AB (id ic) fun o g d=>?_
  exact Ic c v₀ l ⟨o,st _ _ Hn g,d⟩ (CD _ _ (.inr (.inl ⟨w,x,kx,l⟩))) (Hn' _ _ Hn g) ne ap pa
 ·intro q hq
  refine Eb (S.pvO q hq) fun g hn Hn ne p=>?_
  exact⟨st _ _ Hn g,CD _ _ (.inr (.inr ⟨q,hq,rfl⟩)),Hn' _ _ Hn g,ne,p⟩
theorem St.op (S:St X h env wr pv m H s)(x:X.In h){d:Nat}{f:List Ac→Sem Ac}{ps:List PV}{vs:List Ac}{Q:PV→AH→Prop}{A:B2}{E:Ac→Ad→Prop}{post:Ac→Ad→Prop}
  (o:Op X d f ps H Q)(r:AG h ps vs)(ok:Lh X d A)(k:∀v s' h₁ p H',BH h h₁→St X h₁ env wr pv m H' s'→AP h₁ p v→Q p H'→post v s'):
  wpAny (model X.prog X.w) A (f vs) post E s:=by
 have kf:=S.own.keepsFrz
 refine o (Uv s H) s vs A E post (x.keeps kf) S.own.freeze (r.keeps kf) ok fun v s' h₁ p H' k' O' r' q=>?_
 refine CP (S.after k' O') fun h₂ k2 S2 rr=>?_
 exact k v s' h₂ p H' k2 S2 (rr _ _ r') q
theorem St.tok (S:St X h env wr pv m H s){s':Ad}(e1:autoParam (s'.heap=s.heap) mqaR)(e2:autoParam (s'.gens=s.gens) mqaR)(e3:autoParam (s'.os=s.os) mqaR):St X h env wr pv m H s':=
 ⟨S.own.tok e1 e2 e3,S.kind,S.glo,S.bi,e1▸S.ns,S.nsO,e1▸S.cl,e1▸S.clO,e1▸S.pvO⟩
end
def TE (X:Ctx)(d:Nat)(env:Env)(wr:Bool)(m:LM)(H:AH)(t:Sem Ac)(Q:PV→AH→Prop):Prop:=
 ∀(h:Heap) (pv:List (Addr×Obj)) (s:Ad) (A:B2) (E:Ac→Ad→Prop) (post:Ac→Ad→Prop),X.In h→St X h env wr pv m H s→Lh X d A→
  (∀v s' h₁ p H',BH h h₁→St X h₁ env wr pv m H' s'→AP h₁ p v→Q p H'→post v s')→wpAny (model X.prog X.w) A t post E s
def TL (X:Ctx)(d:Nat)(env:Env)(wr:Bool)(m:LM)(H:AH)(t:Sem (List Ac))(K:List PV→AH→Prop):Prop:=
 ∀(h:Heap) (pv:List (Addr×Obj)) (s:Ad) (A:B2) (E:Ac→Ad→Prop) (post:List Ac→Ad→Prop),X.In h→St X h env wr pv m H s→Lh X d A→
  (∀vs s' h₁ ps H',BH h h₁→St X h₁ env wr pv m H' s'→AG h₁ ps vs→K ps H'→post vs s')→wpAny (model X.prog X.w) A t post E s
def TB (X:Ctx)(d:Nat)(env:Env)(wr:Bool)(m:LM)(H:AH)(t:Sem Bool)(K:Bool→AH→Prop):Prop:=
 ∀(h:Heap) (pv:List (Addr×Obj)) (s:Ad) (A:B2) (E:Ac→Ad→Prop) (post:Bool→Ad→Prop),X.In h→St X h env wr pv m H s→Lh X d A→
  (∀b s' h₁ H',BH h h₁→St X h₁ env wr pv m H' s'→K b H'→post b s')→wpAny (model X.prog X.w) A t post E s
def ZV (h:Heap):Fl→Flow→Prop
 | .next,f=>f= .next
 | .brk,f=>f= .brk
 | .cont,f=>f= .cont
 | .ret p,f=>∃v,f= .ret v∧AP h p v
def TF (X:Ctx)(d:Nat)(env:Env)(wr:Bool)(m:LM)(H:AH)(t:Sem Flow)(Q:Fl→LM→AH→Prop):Prop:=
 ∀(h:Heap) (pv:List (Addr×Obj)) (s:Ad) (A:B2) (E:Ac→Ad→Prop) (post:Flow→Ad→Prop),X.In h→St X h env wr pv m H s→Lh X d A→
  (∀f s' h₁ fl m' H',BH h h₁→St X h₁ env wr pv m' H' s'→ZV h₁ fl f→Q fl m' H'→post f s')→wpAny (model X.prog X.w) A t post E s
end
section
open Classical
section
variable {X:Ctx}{d:Nat}{H:AH}{Q:PV→AH→Prop}{a b:PV}
theorem eH {f:Ac→Sem Ac}(o:∀(h:Heap) (s:Ad) (u:Ac) (A:B2) (E:Ac→Ad→Prop) (post:Ac→Ad→Prop),
  X.In h→Own X h H s→AP h a u→Lh X d A→EG X h Q post→wpAny (model X.prog X.w) A (f u) post E s):Op X d (fun vs=>f (vs.getD 0 .none)) [a] H Q:=by
 intro h s vs A E post x O r ok P
 match vs,r with
 |[],r=>exact AF r
 |[u],r=>replace r:=AG.c r;exact o h s u A E post x O r.1 ok P
 |_::_::_,r=>replace r:=AG.c r;exact r.2.elim
theorem Mb {f:Ac→Ac→Sem Ac}(o:∀(h:Heap) (s:Ad) (u v:Ac) (A:B2) (E:Ac→Ad→Prop) (post:Ac→Ad→Prop),
  X.In h→Own X h H s→AP h a u→AP h b v→Lh X d A→EG X h Q post→wpAny (model X.prog X.w) A (f u v) post E s):Op X d (fun vs=>f (vs.getD 0 .none) (vs.getD 1 .none)) [a,b] H Q:=by
 intro h s vs A E post x O r ok P
 match vs,r with
 |[],r=>exact AF r
 |[_],r=>replace r:=AG.c r;exact r.2.elim
 |[u,v],r=>replace r:=AG.c r;exact o h s u v A E post x O r.1 r.2.1 ok P
 |_::_::_::_,r=>replace r:=AG.c r;exact r.2.2.elim
end
theorem Lh.lt {X:Ctx}{d:Nat}{A:B2}(h:Lh X d A):A.units+500<cLine:=by have:=h.2.1;unfold cLine;exact(Al [_,_] 0x26ac4841f4380550232848114290502) this
theorem Gp {h:Heap}{i:Int}{v:Ac}(r:AP h (.int i) v):∃t,v= .int i t:=r
theorem JH {h:Heap}{x:Str}{v:Ac}(r:AP h (.str x) v):∃t,v= .str x t:=r
theorem Lm {h:Heap}{b:Bool}{v:Ac}(r:AP h (.bool b) v):v= .bool b:=r
theorem Gx {h:Heap}{v:Ac}(r:AP h .none v):v= .none:=r
theorem C6 {h:Heap}{a:Addr}{v:Ac}(r:AP h (.loc a) v):v= .ref a:=r
theorem Ik {h:Heap}{w v:Ac}(r:AP h (.raw w) v):v=w:=r
theorem FK {h:Heap}{ps:List PV}{v:Ac}(r:AP h (.tup ps) v):∃a xs,v= .ref a∧h.get? a=some (Gv xs)∧AG h ps xs:=r
theorem Ln {h:Heap}{C a d:Addr}{v:Ac}(r:AP h (.inst C a d) v):v= .ref a∧h.get? a=some (instObj C d):=r
@[elab_as_elim] theorem EJ {h:Heap}{i:Int}{v:Ac}{P:Ac→Prop}(r:AP h (.int i) v)(k:∀t,P (.int i t)):P v:=(Gp r).elim fun t e=>e▸k t
@[elab_as_elim] theorem Mc {h:Heap}{x:Str}{v:Ac}{P:Ac→Prop}(r:AP h (.str x) v)(k:∀t,P (.str x t)):P v:=(JH r).elim fun t e=>e▸k t
@[elab_as_elim] theorem Md {h:Heap}{ps:List PV}{v:Ac}{P:Ac→Prop}(r:AP h (.tup ps) v)(k:∀a xs,h.get? a=some (Gv xs)→AG h ps xs→P (.ref a)):P v:=(FK r).elim fun a e=>e.elim fun xs e=>e.1▸k a xs e.2.1 e.2.2
theorem US {x y:Int}(hx:room x)(hy:room y):IntMulOk x y:=by
 unfold IntMulOk room at*
 simp only[D1,not_and]
 intro _ h
 unfold Builtin.Int.intTooBig at h
 unfold bitsLine at h
 simp only[decide_eq_true_eq] at h
 x_go
section
variable {X:Ctx}{d:Nat}{h:Heap}{H:AH}{s:Ad}{A:B2}{E:Ac→Ad→Prop}{Q:PV→AH→Prop}{post:Ac→Ad→Prop}
theorem Own.isList (O:Own X h H s){l:Addr}{vs:List PV}(e:H l=some (.list vs)):∃xs n,s.heap.get? l=some (Go xs n)∧AG h vs xs:=by
 refine AI (O.at e) fun o zr=>?_;refine Aw zr fun g zr=>?_;refine BT zr fun xs n z2 r=>?_;clear zr;subst z2
 exact Gn xs n g r
theorem WC {h:Heap}{l:Addr}{xs:List Ac}{n:Nat}(g:h.get? l=some (Go xs n)):h.IsList l xs.toArray:=⟨_,g,rfl,n,rfl⟩
theorem EG.list (P:EG X h Q post)(O:Own X h H s){ps:List PV}{xs:List Ac}(r:AG h ps xs)(q:∀c,H c=none→Q (.loc c) (H.set c (.list ps))):
  post (.ref s.heap.objs.size) {s with heap:=s.heap.push (Go xs 0)}:=
 P.here (O.pushT (po:= .list ps) ⟨xs,0,rfl,r⟩) (by refine AP.l' ?_;rfl) (q _ O.fresh)
theorem EG.tup (P:EG X h Q post)(O:Own X h H s){ps:List PV}{xs:List Ac}(r:AG h ps xs)(q:Q (.tup ps) H):
  post (.ref s.heap.objs.size) {s with heap:=s.heap.push (Gv xs)}:=by
 have O':=O.push (seqObj "tuple" xs.toArray 0)
 refine P _ _ _ _ _ O'.keepsFrz O'.freeze ?_ q
 refine AP.t' ?_
 exact FQ _ xs rfl (DS H O.fresh (Ar _ rfl)) (r.keeps O'.keepsFrz)
end
theorem Nw {h:Heap}{ps:List PV}{xs:List Ac}(r:AG h ps xs)(e:xs.toArray.isEmpty=true):ps=[]:=by
 have:xs=[]:=by simpa using e
 subst this
 induction ps using Az with
 |nil=>rfl
 |cons _ _=>exact AF r
theorem ZW {X:Ctx}{d:Nat}{op:Operator}{a b:PV}{H:AH}{Q:PV→AH→Prop}(v:UI op a b H Q):Op X d (fun vs=>binaryOp op (vs.getD 0 .none) (vs.getD 1 .none)) [a,b] H Q:=by
 refine Mb fun h s u w A E post x O ra rb ok P=>?_
 induction op using Iy with
 |Add=>
  induction a using Mine.Internal.PV.casesOn with
  |int x=>
   replace v:=Dm v
   revert v;refine fun zq=>AB zq fun y z1 v=>?_;clear zq;subst z1
   refine EJ ra fun t=>?_
   refine EJ rb fun t'=>?_
   exact PySem.P.add_int (P.here (O.tok) (by refine AP.i' ?_;exact⟨_,rfl⟩) v)
  |tup xs0=>
   replace v:=Wy v
   revert v;refine fun zq=>AB zq fun ys0 z1 v=>?_;clear zq;subst z1
   refine Cv (FK ra) fun l xs z2 g r=>?_;subst z2
   refine Cv (FK rb) fun m ys z2 g' r'=>?_;subst z2
   have g:=O.keep _ _ g
   have g':=O.keep _ _ g'
   have z1:=r.len
   have z2:=r'.len
   by_cases e1:xs.toArray.isEmpty=true
   ·refine IJ ⟨_,g,rfl⟩ ⟨_,g',rfl⟩ I4 Kc Fc EX (Ez _ _) (tuple_addW0 l m xs.toArray ys.toArray 0 0 none none #[] #[] e1) ⟨g,g',?_⟩
    refine P.here O rb ?_
    rw[Nw r e1] at v
    exact v.2.2
   by_cases e2:ys.toArray.isEmpty=true
   ·refine IJ ⟨_,g,rfl⟩ ⟨_,g',rfl⟩ I4 Kc Fc EX (Ez _ _) (tuple_addW1 l m xs.toArray ys.toArray 0 0 none none #[] #[] e1 e2) ⟨g,g',?_⟩
    refine P.here O ra ?_
    rw[Nw r' e2,Di] at v
    exact v.2.2
   have e:xs.toArray++ys.toArray=(xs++ys).toArray:=by simp
   refine IJ ⟨_,g,rfl⟩ ⟨_,g',rfl⟩ I4 Kc Fc EX (Ez _ _) (tuple_addW2 l m xs.toArray ys.toArray 0 0 none none #[] #[] e1 e2 (by rw[AE,AE,AV];have:=v.1;have:=v.2.1;exact(Al [_,_,_,_] 0x1000000781050186a058302186a05820213120212) z1 z2 ‹_› this)) ⟨g,g',?_⟩
   rw[e]
   exact P.tup O (r.append r') v.2.2
  |str x=>
   replace v:=SH v
   revert v;refine fun zq=>AB zq fun y z1 v=>?_;clear zq;subst z1
   refine Mc ra fun t=>?_
   refine Mc rb fun t'=>?_
   refine Eb v fun v1 v2 v3 v4 v5=>?_;clear v
   refine PySem.P.add_str ?_
   rewrite[if_neg (by simp only[beq_iff_eq];exact(Al [_] 0x570120402) v1),if_neg (by simp only[beq_iff_eq];exact(Al [_] 0x570120402) v2)]
   exact⟨by rw[DU _ _,AV];exact(Al [_,_] 0x10000007810503e8381023e838002) v3 v4,P.here (O.tok) (by refine AP.s' ?_;exact⟨_,rfl⟩) v5⟩
  |loc l=>
   replace v:=Ii v
   revert v;refine fun zq=>AB zq fun m z1 v=>?_;clear zq;subst z1
   replace v:=Kn v
   revert v;refine fun zq=>AB zq fun xs e1 v=>?_;clear zq
   replace v:=Kn v
   revert v;refine fun zq=>AB zq fun ys e2 v=>?_;clear zq
   cases C6 ra
   cases C6 rb
   refine BT (O.isList e1) fun us n g r=>?_
   refine BT (O.isList e2) fun ws n' g' r'=>?_
   have z1:=r.len
   have z2:=r'.len
   have e:us.toArray++ws.toArray=(us++ws).toArray:=by simp
   refine IJ ⟨_,g,rfl⟩ ⟨_,g',rfl⟩ noFill_list_add seq_list_add PySem.F.slot_list_add PySem.F.entry_list_add (PySem.F.args_list_add_2 _ _) (list_addW l m us.toArray ws.toArray n n' none none #[] #[] (by rw[AE,AE,AV];have:=v.1;have:=v.2.1;exact(Al [_,_,_,_] 0x1000000781050186a058302186a05820213120212) z1 z2 ‹_› this)) ⟨g,g',?_⟩
   rw[e]
   exact P.list O (r.append r') v.2.2
  |_=>exact v.elim
 |Sub=>
  replace v:=Dm v
  revert v;refine fun zq=>AB zq fun x z1 v=>?_;clear zq;subst z1
  replace v:=Dm v
  revert v;refine fun zq=>AB zq fun y z1 v=>?_;clear zq;subst z1
  refine EJ ra fun t=>?_
  refine EJ rb fun t'=>?_
  exact PySem.P.sub_int (P.here (O.tok) (by refine AP.i' ?_;exact⟨_,rfl⟩) v)
 |Mult=>
  induction a using Mine.Internal.PV.casesOn with
  |int x=>
   replace v:=Dm v
   revert v;refine fun zq=>AB zq fun y z1 v=>?_;clear zq;subst z1
   refine EJ ra fun t=>?_
   refine EJ rb fun t'=>?_
   exact PySem.P.mul_int (P.here (O.tok) (by refine AP.i' ?_;exact⟨_,rfl⟩) v.2.2) (US v.1 v.2.1)
  |loc l=>
   replace v:=Dm v
   revert v;refine fun zq=>AB zq fun n z1 v=>?_;clear zq;subst z1
   replace v:=Kn v
   revert v;refine fun zq=>AB zq fun xs e1 v=>?_;clear zq
   cases C6 ra
   refine EJ rb fun t=>?_
   refine BT (O.isList e1) fun us k g r=>?_
   have z1:=r.len
   refine M6 v fun v1 v2 v3 v4=>?_;clear v
   have hb:us.toArray.size*n.toNat≤1000000:=by
    rw[AE]
    calc us.length*n.toNat≤1000*1000:=OH (by exact(Al [_,_] 0x3e838003e8381020112) z1 v1) (by x_go)
     _=1000000:=rfl
   refine wpAny_binaryOp_repeat_ref (T:="list") (U:="int") (by decide) ⟨_,g,rfl⟩ (fun s'=>typeIs_int s' n t) noFill_list_mul PySem.F.fills_int_mul J2 repeat_list PySem.F.slot_int_index.lookup
    (GV J2 (typeIs_int s n t) PySem.F.entry_int_rmul (PySem.F.args_int_rmul_2 _ _) (int___rmul___int_list n t l us.toArray k)
     ⟨g,rfl,⟨_,g,rfl⟩,GV PySem.F.slot_list_mul ⟨_,g,rfl⟩ PySem.F.entry_list_mul (PySem.F.args_list_mul_2 _ _)
      (lm_list_mul_any l us.toArray k none #[] n t ?_ ?_ ?_) ⟨g,?_⟩⟩)
   ·simp[Builtin.List.listFitsIndex];x_go
   ·x_go
   ·simp[HF,sizeLine];simp only[AE] at hb;exact Aa ‹_› (by decide)
   ·rw[listMul_foldl_if _ _]
    have rr:∀j:Nat,AG h (Cw j xs).flatten (Cw j us).flatten:=fun j=>by
     induction j with
     |zero=>exact AG.n
     |succ j ih=>simp only[List.replicate_succ,List.flatten_cons];exact r.append ih
    exact P.list O (rr _) v4
  |_=>exact v.elim
 |FloorDiv=>
  replace v:=Dm v
  revert v;refine fun zq=>AB zq fun x z1 v=>?_;clear zq;subst z1
  replace v:=Dm v
  revert v;refine fun zq=>AB zq fun y z1 v=>?_;clear zq;subst z1
  refine EJ ra fun t=>?_
  refine EJ rb fun t'=>?_
  have h1:=v.1
  have h2:=v.2.1
  exact floordiv_int (by x_go) (P.here (O.tok) (by refine AP.i' ?_;exact⟨_,rfl⟩) v.2.2) (.inl (PyProof.noPylong_small (by x_go)))
 |Mod=>
  replace v:=Dm v
  revert v;refine fun zq=>AB zq fun x z1 v=>?_;clear zq;subst z1
  replace v:=Dm v
  revert v;refine fun zq=>AB zq fun y z1 v=>?_;clear zq;subst z1
  refine EJ ra fun t=>?_
  refine EJ rb fun t'=>?_
  exact mod_int' v.1 (P.here (O.tok) (by refine AP.i' ?_;exact⟨_,rfl⟩) v.2)
 |_=>exact v.elim
end
section
open Classical
mutual
theorem AP.inj {h:Heap}:∀(p q:PV) {v:Ac},p.data=true→q.data=true→AP h p v→AP h q v→p=q
 | .none,q,v,_,d,r,r'=>by
  have:=Gx r;subst this
  induction q using Mine.Internal.PV.casesOn<;>first|rfl|exact FI d|(cases r';done)|(rcases r' with⟨_,e⟩;cases e;done)|(rcases r' with⟨_,_,e,_⟩;cases e;done)
 | .int i,q,v,_,d,r,r'=>by
  refine AI (Gp r) fun t z1=>?_;subst z1
  induction q using Mine.Internal.PV.casesOn with
  |int j=>refine AI (Gp r') fun t' e=>?_;cases e;rfl
  |_=>first|exact FI d|(cases r';done)|(rcases r' with⟨_,e⟩;cases e;done)|(rcases r' with⟨_,_,e,_⟩;cases e;done)
 | .str x,q,v,_,d,r,r'=>by
  refine AI (JH r) fun t z1=>?_;subst z1
  induction q using Mine.Internal.PV.casesOn with
  |str y=>refine AI (JH r') fun t' e=>?_;cases e;rfl
  |_=>first|exact FI d|(cases r';done)|(rcases r' with⟨_,e⟩;cases e;done)|(rcases r' with⟨_,_,e,_⟩;cases e;done)
 | .tup ps,q,v,d0,d,r,r'=>by
  refine Cv (FK r) fun a xs z2 g l=>?_;subst z2
  induction q using Mine.Internal.PV.casesOn with
  |tup qs=>
   refine Cv (FK r') fun a' xs' e g' l'=>?_
   cases e
   rw[g] at g'
   have e2:xs=xs':=by
    have:=congrArg (fun o:Option Obj=>o.map (·.data)) g'
    simpa using this
   subst e2
   exact congrArg PV.tup (AG.inj ps qs d0 d l l')
  |_=>first|exact FI d|(cases r';done)|(rcases r' with⟨_,e⟩;cases e;done)|(rcases r' with⟨_,_,e,_⟩;cases e;done)
 | .bool _,_,_,d,_,_,_| .loc _,_,_,d,_,_,_| .inst ..,_,_,d,_,_,_| .rng ..,_,_,d,_,_,_| .bi _,_,_,d,_,_,_| .raw _,_,_,d,_,_,_=>FI d
theorem AG.inj {h:Heap}:∀(ps qs:List PV) {vs:List Ac},C9 ps=true→C9 qs=true→AG h ps vs→AG h qs vs→ps=qs
 |[],[],_,_,_,_,_=>rfl
 |[],_::_,[],_,_,_,r=>by exact AF r
 |[],_::_,_::_,_,_,r,_=>by exact AF r
 |_::_,_,[],_,_,r,_=>by exact AF r
 |_::_,[],_::_,_,_,_,r=>by exact AF r
 |p::ps,q::qs,v::vs,d,d',r,r'=>by
  (replace r:=AG.c r;replace r':=AG.c r')
  replace d:=Ae.mp d;replace d':=Ae.mp d'
  rw[AP.inj p q d.1 d'.1 r.1 r'.1,AG.inj ps qs d.2 d'.2 r.2 r'.2];rfl
end
theorem DJ.get {P:Params}{h:Heap}:∀{es:List (PV×PV)} {ds:List DictEntry} {i:Nat} {e:DictEntry},DJ P h es ds→ds[i]? =some e→∃x,es[i]? =some x∧AP h x.1 e.key∧AP h x.2 e.val∧e.hash=Bh P x.1
 |[],[],_,_,_,q=>by simp at q
 |[],_::_,_,_,r,_=>r.elim
 |_::_,[],_,_,r,_=>r.elim
 |(k,v)::es,d::ds,0,e,r,q=>by
  simp only[C7,Bs] at q
  subst q
  exact⟨_,rfl,r.1,r.2.1,r.2.2.1⟩
 |(k,v)::es,d::ds,i+1,e,r,q=>by
  simp only[Cp] at q ⊢
  exact r.2.2.2.get q
theorem DJ.len {P:Params}{h:Heap}:∀{es:List (PV×PV)} {ds:List DictEntry},DJ P h es ds→es.length=ds.length
 |[],[],_=>rfl
 |[],_::_,r=>r.elim
 |_::_,[],r=>r.elim
 |(_,_)::es,_::ds,r=>by simp only[AQ,r.2.2.2.len]
theorem Dx {ps:List PV}(d:C9 ps=true){p:PV}(m:p∈ps):p.data=true:=by
 induction ps with
 |nil=>cases m
 |cons q r ih=>
  replace d:=Ae.mp d
  refine Ap (Aq.mp m) (fun z0=>?_) fun m=>?_;subst z0
  ·exact d.1
  ·exact ih d.2 m
theorem Ef {ps:List PV}{p:PV}(m:p∈ps):p.deep≤B_ ps:=by
 induction ps with
 |nil=>cases m
 |cons q r ih=>
  refine Ap (Aq.mp m) (fun z0=>?_) fun m=>?_;subst z0
  ·exact Ge ..
  ·exact Aa (ih m) (FO ..)
def at_ (k:PV)(es:List (PV×PV)):Option Nat:=es.findIdx? fun e=>decide (e.1=k)
theorem WD {k:PV}{es:List (PV×PV)}(n:(es.map (·.1)).Nodup){j:Nat}{x:PV×PV}(e:es[j]? =some x)(q:x.1=k):at_ k es=some j:=by
 induction es generalizing j with
 |nil=>simp at e
 |cons y r ih=>
  refine(?_:HO _ _=_)
  rw[EW]
  have n:y.1∉r.map (·.1)∧(r.map (·.1)).Nodup:=BR.mp n
  cases j with
  |zero=>
   simp only[C7,Bs] at e
   subst e
   rw[decide_eq_true q];rfl
  |succ j=>
   simp only[Cp] at e
   have hne:¬y.1=k:=fun z=>n.1 (z.trans q.symm▸Bk (Cq e))
   rw[decide_eq_false hne]
   have:=ih n.2 e
   unfold at_ at this
   simp only[BN,if_false,this,By]
theorem WE {k:PV}{es:List (PV×PV)}(n:∀(j:Nat) (x:PV×PV),es[j]? =some x→x.1≠k):at_ k es=none:=by
 unfold at_
 rewrite[GX]
 intro x hx
 refine AI (Fv.mp hx) fun j hj=>?_
 simpa using n j x hj
theorem PP {k:PV}{es:List (PV×PV)}{i:Nat}(e:at_ k es=some i):∃v,es[i]? =some (k,v):=by
 unfold at_ at e
 refine AB (List.findIdx?_eq_some_iff_getElem.mp e) fun h p uu=>?_
 have q:es[i].1=k:=of_decide_eq_true p
 exact⟨es[i].2,by rw[Ah h, ←q];rfl⟩
section
variable {prog:Program}{w:World}{A:B2}{E:Ac→Ad→Prop}{s:Ad}
theorem TG {α:Type}{c:Prop}[Decidable c]{x y:Sem α}{Q:α→Ad→Prop}(q:c)(h:wpAny (model prog w) A x Q E s):wpAny (model prog w) A (if c then x else y) Q E s:=by rw[if_pos q];exact h
theorem IY {α:Type}{c:Prop}[Decidable c]{x y:Sem α}{Q:α→Ad→Prop}(q:¬c)(h:wpAny (model prog w) A y Q E s):wpAny (model prog w) A (if c then x else y) Q E s:=by rw[if_neg q];exact h
theorem WF {α:Type}{n:Nat}{x y:Sem α}{Q:α→Ad→Prop}(h:wpAny (model prog w) A y Q E s):wpAny (model prog w) A (if(n != n)=true then x else y) Q E s:=IY (by rw[bne_self_eq_false n];exact AD) h
theorem Nx {k:PV}{kv:Ac}{stored:List Ac}{Q:Bool→Ad→Prop}(dk:k.data=true)(hk:k.deep≤8)(rk:AP s.heap k kv)
  (hst:∀v∈stored,∃p:PV,p.data=true∧p.deep≤8∧AP s.heap p v)(h:Q false s):wpAny (model prog w) A (tableMayTell kv stored) Q E s:=by
 unfold tableMayTell
 split
 ·exact A9 h
 ·refine A7 (Ld 8 k dk rk hk (IY AD ?_))
  refine A7 ?_
  refine Dz _ (fun rest r s'=>s'=s∧r=(none,())∧∀v∈rest,∃p:PV,p.data=true∧p.deep≤8∧AP s.heap p v) _ ?_ ?_ _ _ ⟨rfl,rfl,hst⟩
  ·intro x rest r s' z24;refine DF z24 fun z0 z1 hr=>?_;clear z24;subst z0;subst z1
   refine CP (hr x Ab) fun p dp hp rp=>?_
   refine A7 (Ld 8 p dp rp hp (IY AD ?_))
   exact A9 ⟨rfl,rfl,fun v hv=>hr v (Af _ hv)⟩
  ·intro r s' z22;refine DF z22 fun z0 z1 uu=>?_;clear z22;subst z0;subst z1
   exact A9 h
theorem Xt {β:Type}{p:Nat→Bool}{J:Nat→β→Prop}{n:Nat}(skip:∀i b,i<n→p i=false→J i b→J (i+1) b){b:β}(m:Nat):∀i,i+m≤n→(∀j,i≤j→j<i+m→p j=false)→J i b→J (i+m) b:=by
 induction m with
 |zero=>exact fun i uu uu h=>h
 |succ m ih=>
  intro i l q h
  exact skip _ b l (q _ (Nat.le_add_right ..) (Bx _)) (ih i (AU l) (fun j l1 l2=>q j l1 (BW l2)) h)
theorem Qz {β:Type}{n:Nat}{p:Nat→Bool}{body:Nat→β→Sem (ForInStep β)}{b0:β}{Q:β→Ad→Prop}(J:Nat→β→Prop)(h0:J 0 b0)(skip:∀i b,i<n→p i=false→J i b→J (i+1) b)
  (turn:∀x b,x<n→p x=true→J x b→wpAny (model prog w) A (body x b) (fun r s'=>match r with| .yield b'=>s'=s∧J (x+1) b'| .done b'=>Q b' s') E s)
  (fin:∀b,J n b→Q b s):wpAny (model prog w) A (forIn ((Am n).filter p) b0 body) Q E s:=by
 refine Dz _ (fun rest b s'=>s'=s∧∃i,i≤n∧rest=(List.range' i (n-i)).filter p∧J i b) _ ?_ ?_ _ _ ⟨rfl,0,AM _,by rw[List.range_eq_range',Nat.sub_zero _];rfl,h0⟩
 ·intro x rest b s' z24;refine Aw z24 fun z0 zr=>?_;clear z24;subst z0;refine CP zr fun i hi hr hJ=>?_;clear zr
  refine Eb (filter_range'_cons _ _ _ _ _ hr.symm) fun hix hxn hpx hskip hrest=>?_
  rw[Gm hi] at hxn hrest
  have hJx:=Xt skip (x-i) i (by exact(Al [_,_,_] 0x20160502415021002) hix hxn) (fun j l1 l2=>hskip j l1 (by exact(Al [_,_,_] 0x1405021625405020202) l1 l2)) hJ
  rw[Gm hix] at hJx
  refine Dc (turn x b hxn hpx hJx) (fun r s' h=>?_) fun uu uu h=>h
  induction r using ForInStep.casesOn with
  |done b'=>exact h
  |yield b'=>exact⟨h.1,x+1,hxn,hrest,h.2⟩
 ·intro b s' z22;refine Aw z22 fun z0 zr=>?_;clear z22;subst z0;refine CP zr fun i hi hr hJ=>?_;clear zr
  have hJn:=Xt skip (n-i) i (by exact(Al [_,_] 0x10160501002) hi) (fun j l1 l2=>Hp.mpr (List.filter_eq_nil_iff.mp hr.symm j (List.mem_range'_1.mpr ⟨l1,l2⟩))) hJ
  rw[Gm hi] at hJn
  exact fin b hJn
theorem ZX {α β:Type}{c:Prop}[Decidable c]{x y:Sem α}{F:α→Sem β}{a:α}{Q:β→Ad→Prop}(hx:∀{Q':α→Ad→Prop},Q' a s→wpAny (model prog w) A x Q' E s)(hy:∀{Q':α→Ad→Prop},Q' a s→wpAny (model prog w) A y Q' E s)
  (h:wpAny (model prog w) A (F a) Q E s):wpAny (model prog w) A (if c then x>>=F else y>>=F) Q E s:=by
 by_cases q:c
 ·rw[if_pos q];exact A7 (hx h)
 ·rw[if_neg q];exact A7 (hy h)
def UT (k:PV)(es:List (PV×PV))(i:Nat):Option Nat→Prop
 |none=>∀j x,j<i→es[j]? =some x→x.1≠k
 |some j=>j<i∧at_ k es=some j
theorem UT.skip {k:PV}{es:List (PV×PV)}{i:Nat}(h:∀x,es[i]? =some x→x.1≠k):∀{o:Option Nat},UT k es i o→UT k es (i+1) o
 |none,f=>fun j x l e=>(Nat.lt_or_eq_of_le (CS l)).elim (fun l=>f j x l e) fun q=>h x (q▸e)
 |some _,f=>⟨BW f.1,f.2⟩
theorem UT.fin {k:PV}{es:List (PV×PV)}{n:Nat}(hn:es.length≤n):∀{o:Option Nat},UT k es n o→at_ k es=o
 |none,f=>WE fun j x e=>f j x (Bt (A_.mp e).1 hn) e
 |some _,f=>f.2
theorem Lo {ι β:Type}{n:Nat}{p:Nat→Bool}{body:Nat→β→Sem (ForInStep β)}{b0:β}{Q:β→Ad→Prop}(emb:ι→β)(i0:ι)(hb:b0=emb i0)(J:Nat→ι→Prop)(h0:J 0 i0)(skip:∀i o,i<n→p i=false→J i o→J (i+1) o)
  {D:Nat→DictEntry→Bool→Prop}(pre:∀x,x<n→p x=true→∃e c,D x e c)
  (turn:∀x o e c,D x e c→J x o→wpAny (model prog w) A (body x (emb o)) (fun r s'=>match r with| .yield b'=>s'=s∧∃o',b'=emb o'∧J (x+1) o'| .done b'=>Q b' s') E s)
  (fin:∀o,J n o→Q (emb o) s):wpAny (model prog w) A (forIn ((Am n).filter p) b0 body) Q E s:=
 Qz (fun i b=>∃o,b=emb o∧J i o) ⟨i0,hb,h0⟩ (fun i b l q ⟨o,e,j⟩=>⟨o,e,skip i o l q j⟩)
  (fun x b l q ⟨o,z,j⟩=>z▸(pre x l q).elim fun e ⟨c,d⟩=>turn x o e c d j) fun b ⟨o,z,j⟩=>z▸fin o j
def Dt (prog:Program)(w:World)(A:B2)(E:Ac→Ad→Prop)(s:Ad)(es:List (PV×PV))(ds:List DictEntry)(k:PV)(kv:Ac)(x:Nat)(e:DictEntry)(c:Bool):Prop:=
 ds.toArray[x]? =some e∧(e.hash == Bh w.params k)=true∧(c=true→at_ k es=some x)∧(c=false→∀o,UT k es x o→UT k es (x+1) o)∧∀{Q:Bool→Ad→Prop},Q c s→wpAny (model prog w) A (eqBool e.key kv) Q E s
theorem PQ {P:Params}{h:Heap}{es:List (PV×PV)}{ds:List DictEntry}(ko:Bw es)(r:DJ P h es ds)(i:Nat)(l:i<ds.length):∃e x,ds.toArray[i]? =some e∧es[i]? =some x∧AP h x.1 e.key∧e.hash=Bh P x.1∧x.1.data=true∧x.1.deep≤7:=by
 refine L6 (r.get (Ah l)) fun x a b uu c=>?_
 have m:x.1∈es.map (·.1):=Bk (Cq a)
 exact Uy (ds[i]) x ((Db ..).trans (Ah l)) a b c (Dx ko.1 m) (Aa (Ef m) ko.2.2.2)
theorem SR {P:Params}{h:Heap}{es:List (PV×PV)}{ds:List DictEntry}{k:PV}(ko:Bw es)(r:DJ P h es ds)(i:Nat)(o:Option Nat)(l:i<ds.toArray.size)(q:(SB (fun e:DictEntry=>e.hash) ds.toArray[i]? == some (Bh P k))=false)
  (f:UT k es i o):UT k es (i+1) o:=by
 refine L8 (PQ ko r i l) fun e x e1 e2 uu e4 uu=>?_
 refine f.skip fun y ey z=>?_
 rw[e2] at ey;replace ey:=Ai ey;subst ey
 rw[e1,By,e4,z] at q
 exact absurd q (by rw[beq_self_eq_true _];decide)
theorem Xu {es:List (PV×PV)}{ds:List DictEntry}{k:PV}{kv:Ac}(ko:Bw es)(r:DJ w.params s.heap es ds)(kk:Cz k)(rk:AP s.heap k kv)(hu:A.units+100<cLine)(i:Nat)(l:i<ds.toArray.size)
  (q:(SB (fun e:DictEntry=>e.hash) ds.toArray[i]? == some (Bh w.params k))=true):∃e c,Dt prog w A E s es ds k kv i e c:=by
 refine Rr (PQ ko r i l) fun e x e1 e2 e3 e4 e5 e6=>?_
 rw[e1,By] at q
 exact Tt e (decide (x.1=k)) e1 (beq_iff_eq.mpr (Ai (Et q))) (fun z=>WD ko.2.1 e2 (of_decide_eq_true z)) (fun z o f=>f.skip fun y ey=>by rw[e2] at ey;replace ey:=Ai ey;subst ey;exact of_decide_eq_false z) (fun h=>HQ e5 kk.1 e3 rk (by exact(Al [_,_,_] 0x241055071810224642805502) hu e6) h)
theorem QA {d:Addr}{ds:List DictEntry}{n:Nat}{es:List (PV×PV)}{k:PV}{kv:Ac}{Q:Option Nat→Ad→Prop}
  (g:s.heap.get? d=some (JQ ds n))(r:DJ w.params s.heap es ds)(ko:Bw es)(kk:Cz k)(rk:AP s.heap k kv)(hu:A.units+100<cLine)
  (h:Q (at_ k es) s):wpAny (model prog w) A (dictWalkPlain d kv (Bh w.params k) ds.toArray (placesWithHash ds.toArray.size (fun i=>ds.toArray[i]?.map (·.hash)) (Bh w.params k))) Q E s:=by
 refine A7 (Lo (D:=Dt prog w A E s es ds k kv) (fun _:Unit=>(none,())) () rfl (fun i uu=>UT k es i none) (fun uu uu l=>absurd l (Bj _)) (fun i uu l q f=>SR ko r i none l q f) (Xu ko r kk rk hu) (fun x o e c D f=>?_) fun o f=>A9 (f.fin (DL r.len)▸h))
 refine rwL D.1 (TG D.2.1 ?_)
 refine A7 (Dh g rfl (A7 (D.2.2.2.2 (A7 (Dh g rfl (WF ?_))))))
 induction c using AX with
 |false=>exact A7 (Cs (A9 ⟨rfl,(),rfl,D.2.2.2.1 rfl none f⟩))
 |true=>exact A7 (Cs (A9 (A9 (D.2.2.1 rfl▸h))))
theorem UU {P:Params}{h:Heap}{es:List (PV×PV)}{ds:List DictEntry}(ko:Bw es)(r:DJ P h es ds){hs:Int}(v:Ac)(hv:v∈(placesWithHash ds.toArray.size (fun i=>ds.toArray[i]?.map (·.hash)) hs).filterMap (fun i=>ds.toArray[i]?.map (·.key))):∃p:PV,p.data=true∧p.deep≤8∧AP h p v:=by
 refine AB (Co.mp hv) fun i uu hi=>?_
 have hl:i<ds.length:=by
  refine ME fun l=>?_
  rw[Ff l] at hi
  exact CC hi
 refine Rr (PQ ko r i hl) fun e x e1 e2 e3 uu e5 e6=>?_
 rw[e1] at hi
 replace hi:=Ai hi;subst hi
 exact⟨x.1,e5,CR e6,e3⟩
theorem ZY {P Q:Prop}(f:P→Q)(p:P):Q:=f p
theorem UV {k:PV}(h:Cz k):(∃i,k= .int i)∨∃ps,k= .tup ps:=by
 induction k using Mine.Internal.PV.casesOn with
 |int i=>exact .inl ⟨i,rfl⟩
 |tup ps=>exact .inr ⟨ps,rfl⟩
 |_=>exact FI h.2.2
theorem PR {d:Addr}{ds:List DictEntry}{n:Nat}{es:List (PV×PV)}{Q:Option Nat→Ad→Prop}(g:s.heap.get? d=some (JQ ds n))(r:DJ w.params s.heap es ds)(ko:Bw es)(hu:A.units+100<cLine):
  ∀(k:PV) (kv:Ac),Cz k→AP s.heap k kv→Q (at_ k es) s→wpAny (model prog w) A (dictFind d kv (Bh w.params k)) Q E s:=by
 refine ZY (P:=∀(kv:Ac) (k:PV),Cz k→AP s.heap k kv→Q (at_ k es) s→wpAny (model prog w) A ((?code:Ac→PV→Sem (Option Nat)) kv k) Q E s) (fun L=>?_) ?_
 rotate_left
 ·intro k kv kk rk h
  refine Ap (UV kk) (fun q=>AI q fun i q=>?_) fun q=>AI q fun ps q=>?_
  ·subst q
   refine AI (Gp rk) fun t z1=>?_;subst z1
   refine Ay (A7 (Cf g rfl ?_))
   dsimp only
   by_cases ca:(Value.int i t::(placesWithHash ds.toArray.size (fun i=>ds.toArray[i]?.map (·.hash)) (Bh w.params (.int i))).filterMap (fun i=>ds.toArray[i]?.map (·.key))).all carriedByValue=true
   ·exact TG ca (QA g r ko kk rk hu h)
   refine IY ca ?_
   refine ZX (a:=false) (fun h=>A9 h) (fun h=>Nx kk.1 (CR kk.2.1) rk (UU ko r) h) ?_
   refine IY (by rw[GU _];exact AD) ?_
   clear ca
   generalize Value.int i t=kv at*
   generalize PV.int i=k at*
   exact L kv k kk rk h
  ·subst q
   refine BT (FK rk) fun a xs z2 uu=>?_;subst z2
   have noany:¬(ds.toArray.any fun e=>e.key == BY a&&e.hash != Bh w.params (.tup ps))=true:=by
    rw[List.any_toArray];rewrite[List.any_eq_true]
    intro z20;refine AB z20 fun e hin hc=>?_;clear z20
    refine Aw (Ae.mp hc) fun hc1 hc2=>?_
    refine AI (Fv.mp hin) fun j hj=>?_
    refine Rr (PQ ko r j (A_.mp hj).1) fun e' x e1 uu rx hx dx uu=>?_
    rw[Db,hj] at e1
    replace e1:=Ai e1;subst e1
    rw[Et hc1] at rx
    rw[hx,AP.inj x.1 _ dx kk.1 rx rk,bne_self_eq_false] at hc2
    exact FI hc2
   refine Ay (A7 (Cf g rfl ?_))
   dsimp only
   refine IY (by rw[List.all_cons];exact AD) (IY noany ?_)
   refine ZX (a:=false) (fun h=>A9 h) (fun h=>Nx kk.1 (CR kk.2.1) rk (UU ko r) h) ?_
   refine IY (by rw[GU _];exact AD) ?_
   clear noany
   generalize BY a=kv at*
   generalize PV.tup ps=k at*
   exact L kv k kk rk h
 ·intro kv k kk rk h
  refine A7 (Lo (D:=Dt prog w A E s es ds k kv) (fun o=>(none,o)) none rfl (fun i o=>UT k es i o) (fun uu uu l=>absurd l (Bj _)) (fun i o l q f=>SR ko r i o l q f) (Xu ko r kk rk hu) (fun x o e c D f=>?_) fun o f=>A9 (Q:=Q) (f.fin (DL r.len)▸h))
  refine rwL D.1 (TG D.2.1 ?_)
  refine A7 (Dh g rfl (A7 (D.2.2.2.2 (A7 (Dh g rfl (WF ?_))))))
  induction c using AX with
  |false=>
   refine A7 (Cs (IY (by rw[GU _];exact AD) (A9 ⟨rfl,o,rfl,D.2.2.2.1 rfl o f⟩)))
  |true=>
   induction o using Bq with
   |some j=>exact absurd (Ai ((D.2.2.1 rfl).symm.trans f.2)) (Cc f.1)
   |none=>
    refine A7 (Cs ?_)
    split
    ·exact A9 (A9 (D.2.2.1 rfl▸h))
    ·exact A9 ⟨rfl,some x,rfl,Bx x,D.2.2.1 rfl⟩
theorem Hj {d:Addr}{ds:List DictEntry}{n:Nat}{es:List (PV×PV)}{k:PV}{kv:Ac}{Q:Option Nat→Ad→Prop}
  (g:s.heap.get? d=some (JQ ds n))(r:DJ w.params s.heap es ds)(ko:Bw es)(kk:Cz k)(rk:AP s.heap k kv)(hu:A.units+100<cLine)
  (h:Q (at_ k es) s):wpAny (model prog w) A (dictFind d kv (Bh w.params k)) Q E s:=
 PR g r ko hu k kv kk rk h
end
end
section
open Classical
theorem Ny {k:PV}:∀{es:List (PV×PV)},EH k es=(at_ k es).bind fun i=>(es[i]?).map (·.2)
 |[]=>rfl
 |(q,v)::r=>by
  rw[HR];unfold at_
  rw[EW]
  by_cases e:q=k
  ·rw[if_pos e,decide_eq_true e];rfl
  ·have ih:=@Ny k r
   unfold at_ at ih
   rw[if_neg e,decide_eq_false e,ih]
   cases HO (fun e=>decide (e.1=k)) r with
   |none=>rfl
   |some i=>exact rfl
theorem UW {k v:PV}:∀{es:List (PV×PV)},put k v es=match at_ k es with|some i=>es.modify i fun e=>(e.1,v)|none=>es++[(k,v)]
 |[]=>rfl
 |(q,u)::r=>by
  rw[Li];unfold at_
  rw[EW]
  by_cases e:q=k
  ·rw[if_pos e,decide_eq_true e];rfl
  ·have ih:=@UW k v r
   unfold at_ at ih
   rw[if_neg e,decide_eq_false e,ih]
   cases HO (fun e=>decide (e.1=k)) r with
   |none=>rfl
   |some i=>simp[J3]
theorem UX {k:PV}:∀{es:List (PV×PV)} {i:Nat},at_ k es=some i→Wp k es=es.eraseIdx i
 |[],i,e=>CC e
 |(q,u)::r,i,h=>by
  unfold at_ at h
  rw[EW] at h
  rw[Zw]
  by_cases e:q=k
  ·rw[if_pos e]
   rw[decide_eq_true e] at h
   simp only[if_true,Bs] at h
   subst h;rfl
  ·rw[if_neg e]
   rw[decide_eq_false e] at h
   simp only[BN,if_false] at h
   cases z:HO (fun e=>decide (e.1=k)) r with
   |none=>rw[z] at h;exact CC h
   |some j=>
    rw[z] at h
    simp only[By,Bs] at h
    subst h
    rw[List.eraseIdx_cons_succ];rewrite[UX (k:=k) (es:=r) z];rfl
theorem DJ.modify {P:Params}{h:Heap}{v:PV}{u:Ac}(rv:AP h v u):∀{es:List (PV×PV)} {ds:List DictEntry} (i:Nat),DJ P h es ds→DJ P h (es.modify i fun e=>(e.1,v)) (ds.modify i fun e=>{e with val:=u})
 |[],[],i,_=>by cases i<;>trivial
 |[],_::_,_,r=>r.elim
 |_::_,[],_,r=>r.elim
 |(_,_)::es,d::ds,0,r=>by simp only[List.modify_zero_cons];exact⟨r.1,rv,r.2.2.1,r.2.2.2⟩
 |(_,_)::es,d::ds,i+1,r=>by simp only[J3];exact⟨r.1,r.2.1,r.2.2.1,r.2.2.2.modify rv i⟩
theorem DJ.snoc {P:Params}{h:Heap}{k v:PV}{a u:Ac}(rk:AP h k a)(rv:AP h v u):∀{es:List (PV×PV)} {ds:List DictEntry},DJ P h es ds→DJ P h (es++[(k,v)]) (ds++[⟨Bh P k,a,u⟩])
 |[],[],_=>⟨rk,rv,rfl,trivial⟩
 |[],_::_,r=>r.elim
 |_::_,[],r=>r.elim
 |(_,_)::es,d::ds,r=>⟨r.1,r.2.1,r.2.2.1,r.2.2.2.snoc rk rv⟩
theorem DJ.erase {P:Params}{h:Heap}:∀{es:List (PV×PV)} {ds:List DictEntry} (i:Nat),DJ P h es ds→DJ P h (es.eraseIdx i) (ds.eraseIdx i)
 |[],[],_,_=>trivial
 |[],_::_,_,r=>r.elim
 |_::_,[],_,r=>r.elim
 |(_,_)::es,d::ds,0,r=>r.2.2.2
 |(_,_)::es,d::ds,i+1,r=>⟨r.1,r.2.1,r.2.2.1,r.2.2.2.erase i⟩
section
variable {X:Ctx}{h:Heap}{H:AH}{s:Ad}{A:B2}{E:Ac→Ad→Prop}
theorem Own.isDict (O:Own X h H s){l:Addr}{es:List (PV×PV)}{n:Nat}(e:H l=some (.dict es n)):∃ds,s.heap.get? l=some (JQ ds n)∧DJ X.w.params h es ds:=by
 refine AI (O.at e) fun o zr=>?_;refine Aw zr fun g zr=>?_;refine AB zr fun ds z1 r=>?_;clear zr;subst z1
 exact⟨ds,g,r⟩
theorem Own.notSys (O:Own X h H s){l:Addr}{po:PO}(e:H l=some po):(l == sysModules)=false:=by
 have:=O.hi l po e
 exact beq_false_of_ne fun q=>by rw[q] at this;exact absurd this (by decide)
theorem Me (O:Own X h H s){l:Addr}{es:List (PV×PV)}{n:Nat}(e:H l=some (.dict es n))(ko:Bw es){k:PV}(kk:Cz k){kv:Ac}(rk:AP h k kv)(hu:A.units+100<cLine)
  {Q:Option Ac→Ad→Prop}(q1:∀p v tk,EH k es=some p→AP h p v→Q (some v) {s with toks:=tk})(q2:∀tk,EH k es=none→Q none {s with toks:=tk}):
  wpAny (model X.prog X.w) A (dictGet l kv) Q E s:=by
 refine AB (O.isDict e) fun ds g r=>?_
 refine Ay (A7 (Lc kk.1 (AP.keeps O.keep _ rk) (by have:=kk.2.1;exact(Al [_,_,_] 0x24410555071810224642805502) hu this) fun tk=>?_))
 refine A7 (Hj (s:={s with toks:=tk}) g (r.keeps O.keep) ko kk (AP.keeps O.keep _ rk) hu ?_)
 have en:=@Ny k es
 cases z:at_ k es with
 |none=>
  rw[z] at en
  exact A9 (q2 tk en)
 |some i=>
  refine AI (PP z) fun v ev=>?_
  rw[z,D4,ev] at en
  have hl:i<ds.length:=by rw[←r.len];exact(A_.mp ev).1
  refine L6 (r.get (Ah hl)) fun x a uu rv uu=>?_
  rw[ev] at a
  replace a:=Ai a;subst a
  refine A7 (Cf (s:={s with toks:=tk}) g rfl ?_)
  rw[show ds.toArray[i]? =ds[i]? by simp,Ah hl]
  exact A9 (q1 v _ tk en rv)
theorem Pc (O:Own X h H s){l:Addr}{es:List (PV×PV)}{n:Nat}(e:H l=some (.dict es n))(ko:Bw es){k:PV}(kk:Cz k){kv:Ac}(rk:AP h k kv)(hu:A.units+101<cLine)
  {Q:Bool→Ad→Prop}(q:∀tk,Q (EH k es).isSome {s with toks:=tk}):wpAny (model X.prog X.w) A (contains (.ref l) kv) Q E s:=by
 refine AB (O.isDict e) fun ds g r=>?_
 have hT:s.TypeIs (.ref l) "dict":=⟨_,g,rfl⟩
 refine Ay (A7 (EO hT GQ.lookup ?_))
 refine(?_:wpAny _ _ (if(some (OZ "dict.__contains__") == some Bl)=true then _ else _) _ E s)
 rw[if_neg (by rw[beq_builtin_none _];exact AD)]
 refine A7 (wpAny_callSpecialUnlessNone?_slot (name:=A8 "__contains__") hT GQ
  (B4 GQ hT entry_dict_contains ?_ (args_dict_contains _ _)))
 refine(?_:wpAny _ _ (dictGet l kv>>=_) _ _ s)
 refine A7 (Me (A:=A.in1) O e ko kk rk (by refine(?_:A.units+1+100<cLine);assumption) (fun p v tk en uu=>?_) fun tk en=>?_)
 ·have:=q tk
  rw[en] at this
  refine(?_:wpAny _ _ (ret (.bool true)) _ _ _)
  exact A9 ⟨_,rfl,Dk this⟩
 ·have:=q tk
  rw[en] at this
  refine(?_:wpAny _ _ (Builtin.Dict.pendingKey? l kv>>=_) _ _ _)
  exact A7 (wpAny_pendingKey_other (O.notSys e) (A9 ⟨_,rfl,Dk this⟩))
theorem Nz (O:Own X h H s){l:Addr}{es:List (PV×PV)}{n:Nat}(e:H l=some (.dict es n))(ko:Bw es){k p:PV}(kk:Cz k){kv:Ac}(rk:AP h k kv)(hu:A.units+101<cLine)
  (en:EH k es=some p){Q:Ac→Ad→Prop}(q:∀v tk,AP h p v→Q v {s with toks:=tk}):wpAny (model X.prog X.w) A (getItem (.ref l) kv) Q E s:=by
 refine AB (O.isDict e) fun ds g r=>?_
 have hT:s.TypeIs (.ref l) "dict":=⟨_,g,rfl⟩
 refine Ay (A7 (Fh hT (by decide) ?_))
 refine A7 (Bm (name:=A8 "__getitem__") hT LP
  (B4 LP hT entry_dict_getitem ?_ (args_dict_getitem _ _)))
 refine(?_:wpAny _ _ (dictGet l kv>>=_) _ _ s)
 refine A7 (Me (A:=A.in1) O e ko kk rk (by refine(?_:A.units+1+100<cLine);assumption) (fun p' v tk en' rv=>?_) fun tk en'=>?_)
 ·rw[en] at en';replace en':=Ai en';subst en'
  exact A9 ⟨v,rfl,A9 (q v tk rv)⟩
 ·rw[en] at en';exact HJ en'
theorem NA (O:Own X h H s){l:Addr}{es:List (PV×PV)}{n:Nat}(e:H l=some (.dict es n))(ko:Bw es){k v:PV}(kk:Cz k){kv u:Ac}(rk:AP h k kv)(rv:AP h v u)(hu:A.units+100<cLine)
  {Q:Unit→Ad→Prop}(q:∀h' tk,s.toks≤tk→Cm l s.heap h'→Own X h (H.set l (.dict (put k v es) (if(EH k es).isSome then n else n+1))) {s with heap:=h',toks:=tk}→Q () {s with heap:=h',toks:=tk}):
  wpAny (model X.prog X.w) A (dictSet l kv u) Q E s:=by
 refine AB (O.isDict e) fun ds g r=>?_
 have dl:=r.len
 have kz:=ko.2.2.1
 refine Ay (A7 (wpAny_with_toks (n:=s.toks) (Ak _) (Lc kk.1 (AP.keeps O.keep _ rk) (by have:=kk.2.1;exact(Al [_,_,_] 0x24410555071810224642805502) hu this) fun tk (htk:s.toks≤tk)=>?_)))
 refine Ay (A7 (Hj (s:={s with toks:=tk}) g (r.keeps O.keep) ko kk (AP.keeps O.keep _ rk) hu ?_))
 have O':Own X h H {s with toks:=tk}:=O.tok
 have en:=@Ny k es
 have pu:=@UW k v es
 cases z:at_ k es with
 |none=>
  rw[z] at en pu
  rw[en,pu] at q
  refine A7 (Cs (Jp (s:={s with toks:=tk}) g rfl ?_ (by rw[AE,AV];exact(Al [_,_] 0x10000007800186a0581020112) dl kz) (by simp)))
  refine q _ tk htk (Au ..) (O'.upd e (Au ..) ⟨_,AK _ g rfl,_,rfl,?_⟩)
  simpa using r.snoc rk rv
 |some i=>
  refine AI (PP z) fun v' ev=>?_
  rw[z,D4,ev] at en
  rw[z] at pu
  rw[en,pu] at q
  refine A7 (Cs (A7 (wpAny_updateDict (s:={s with toks:=tk}) g rfl ?_ (by simp))))
  refine wpAny_point (q _ tk htk (Au ..) (O'.upd e (Au ..) ⟨_,AK _ g rfl,ds.modify i (fun e=>{e with val:=u}),?_,r.modify rv i⟩))
  exact congrArg (fun z=>({cls:= .type "dict",data:= .dict z n}:Obj)) (List.modify_toArray ..)
theorem TH (O:Own X h H s){l:Addr}{es:List (PV×PV)}{n:Nat}(e:H l=some (.dict es n))(ko:Bw es){k v:PV}(kk:Cz k){kv u:Ac}(rk:AP h k kv)(rv:AP h v u)(hu:A.units+100<cLine)
  {Q:Unit→Ad→Prop}(q:∀s',Own X h (H.set l (.dict (put k v es) (if(EH k es).isSome then n else n+1))) s'→Q () s'):
  wpAny (model X.prog X.w) A (dictSet l kv u) Q E s:=
 NA O e ko kk rk rv hu fun h' tk uu uu O'=>q _ O'
theorem NB (O:Own X h H s){l:Addr}{es:List (PV×PV)}{n:Nat}(e:H l=some (.dict es n))(ko:Bw es){k v:PV}(kk:Cz k){kv u:Ac}(rk:AP h k kv)(rv:AP h v u)(hu:A.units+101<cLine)
  {Q:Unit→Ad→Prop}(q:∀s',Own X h (H.set l (.dict (put k v es) (if(EH k es).isSome then n else n+1))) s'→Q () s'):
  wpAny (model X.prog X.w) A (setItem (.ref l) kv u) Q E s:=by
 refine AB (O.isDict e) fun ds g r=>?_
 have hT:s.TypeIs (.ref l) "dict":=⟨_,g,rfl⟩
 refine Ay (A7 (Fh hT (by decide) ?_))
 refine A7 (Bm (name:=A8 "__setitem__") hT LO
  (B4 LO hT entry_dict_setitem ?_ (args_dict_setitem _ _ _)))
 refine(?_:wpAny _ _ (Builtin.Dict.notOrdered "__setitem__" ⟨[.ref l,kv,u],[]⟩>>=_) _ _ s)
 refine A7 (D9 hT ?_)
 refine(?_:wpAny _ _ (dictSet l kv u>>=_) _ _ s)
 exact A7 (TH (A:=A.in1) O e ko kk rk rv (by refine(?_:A.units+1+100<cLine);assumption) fun s' O'=>A9 ⟨.none,rfl,A9 (q s' O')⟩)
end
end
section
open Classical
section
variable {X:Ctx}{h:Heap}{H:AH}{s:Ad}{A:B2}{E:Ac→Ad→Prop}{Q:PV→AH→Prop}{post:Ac→Ad→Prop}
theorem Own.seq (O:Own X h H s){l:Addr}{vs ws:List PV}{xs ys:List Ac}{n:Nat}(e:H l=some (.list vs))(g:s.heap.get? l=some (Go xs n))(f:Array Ac→Array Ac)(hf:f xs.toArray=ys.toArray)(r:AG h ws ys):
  Own X h (H.set l (.list ws)) {s with heap:=s.heap.update l (BP f)}:=
 O.upd e (Au ..) ⟨_,EP g f,ys,_,by rw[hf];rfl,r⟩
theorem UY (P:EG X h Q post)(O:Own X h H s){l:Addr}{vs:List PV}{v:PV}{u:Ac}(e:H l=some (.list vs))(ru:AP h v u)(hz:vs.length≤100000)(q:Q .none (H.set l (.list (vs++[v])))):
  wpAny (model X.prog X.w) A (call (.builtin "list.append") [.ref l,u]) post E s:=by
 refine BT (O.isList e) fun xs n g r=>?_
 have z:=r.len
 refine B4 slot_list_append ⟨_,g,rfl⟩ LR ?_ (args_list_append _ _)
 refine(?_:wpAny _ _ (updateSeq l (·.push u)>>=fun uu=>ret .none) _ _ s)
 refine A7 (Gb g rfl (A9 ⟨.none,rfl,P.here (O.seq (ws:=vs++[v]) (ys:=xs++[u]) e g _ (by simp) (r.append (by refine AG.d ?_;exact⟨ru,trivial⟩))) (by refine AP.n' ?_;rfl) q⟩) (by rw[AE,AV];exact(Al [_,_] 0x100000078000112186a058102) hz z) (by simp only[LS,AE,AC,AQ,Gg];rw[AV];exact(Al [_,_] 0x410000007854750500112186a058102) hz z))
theorem UZ (P:EG X h Q post)(O:Own X h H s){l m:Addr}{vs ws:List PV}(e:H l=some (.list vs))(e':H m=some (.list ws))(hz:vs.length≤100000)(hz':ws.length≤100000)(q:Q .none (H.set l (.list (vs++ws)))):
  wpAny (model X.prog X.w) A (call (.builtin "list.extend") [.ref l, .ref m]) post E s:=by
 refine BT (O.isList e) fun xs n g r=>?_
 refine BT (O.isList e') fun ys n' g' r'=>?_
 have z:=r.len
 have z':=r'.len
 refine GV J8 ⟨_,g,rfl⟩ PySem.F.entry_list_extend (PySem.F.args_list_extend_2 _ _)
  (AutoSeq1.list_extend_list_list_0 l xs.toArray n m ys.toArray n' (by simp[HF,sizeLine];x_go) (by rw[AE,AV];exact(Al [_,_] 0x100000078000112186a058102) hz z) (by rw[AE,AE,AV];exact(Al [_,_,_,_] 0x41000000785105013120212186a058302186a058202) hz hz' z z')) ⟨g,g',?_⟩
 exact P.here (O.seq (ws:=vs++ws) (ys:=xs++ys) e g _ (by simp) (r.append r')) (by refine AP.n' ?_;rfl) q
theorem AG.last {h:Heap}{vs:List PV}{xs:List Ac}(r:AG h vs xs){v:PV}(e:vs.getLast?=some v):∃u,xs[xs.length-1]? =some u∧AP h v u:=by
 rw[List.getLast?_eq_getElem?] at e
 rw[←r.len]
 exact r.get e
theorem AG.dropLast {h:Heap}{vs:List PV}{xs:List Ac}(r:AG h vs xs):AG h vs.dropLast xs.dropLast:=by
 rw[J5,J5, ←r.len]
 exact r.take _
theorem ZZ (P:EG X h Q post)(O:Own X h H s){l:Addr}{vs:List PV}{v:PV}(e:H l=some (.list vs))(el:vs.getLast?=some v)(hz:vs.length≤100000)(q:Q v (H.set l (.list vs.dropLast))):
  wpAny (model X.prog X.w) A (call (.builtin "list.pop") [.ref l]) post E s:=by
 refine BT (O.isList e) fun xs n g r=>?_
 have z:=r.len
 refine AB (r.last el) fun u eu ru=>?_
 refine GV KY ⟨_,g,rfl⟩ PySem.F.entry_list_pop (PySem.F.args_list_pop_1 _)
  (MeetsSeq.list_pop_last l xs.toArray n u (by simpa using eu) (by rw[AE,AV];exact(Al [_,_] 0x100000078000112186a058102) hz z)) ⟨g,?_⟩
 refine P.here (O.seq (ws:=vs.dropLast) (ys:=xs.dropLast) e g _ ?_ r.dropLast) ru q
 have hp:xs.length-1<xs.length:=(A_.mp eu).1
 simp only[AE,Dr]
 congr 1
 rw[List.eraseIdx_length_sub_one];rfl
theorem Z_ (P:EG X h Q post)(O:Own X h H s){l:Addr}{es:List (PV×PV)}{n:Nat}(e:H l=some (.dict es n))(ko:Bw es){k v:PV}(kk:Cz k){kv u:Ac}(rk:AP h k kv)(rv:AP h v u)(hu:A.units+101<cLine)
  (q:Q ((EH k es).getD v) H):wpAny (model X.prog X.w) A (call (.builtin "dict.get") [.ref l,kv,u]) post E s:=by
 refine AB (O.isDict e) fun ds g r=>?_
 have hT:s.TypeIs (.ref l) "dict":=⟨_,g,rfl⟩
 refine B4 K_ hT PySem.F.entry_dict_get ?_ (PySem.F.args_dict_get_3 _ _ _)
 refine(?_:wpAny _ _ (dictGet l kv>>=_) _ _ s)
 refine A7 (Me (A:=A.in1) O e ko kk rk (by refine(?_:A.units+1+100<cLine);assumption) (fun p' v' tk en' rv'=>?_) fun tk en'=>?_)
 ·rw[en'] at q
  exact A9 ⟨_,rfl,P.here (O.tok) rv' q⟩
 ·rw[en'] at q
  refine(?_:wpAny _ _ (Builtin.Dict.missed l kv>>=_) _ _ _)
  exact A7 (wpAny_missed_other (O.notSys e) (A9 ⟨_,rfl,P.here (O.tok) rv q⟩))
theorem PU (P:EG X h Q post)(O:Own X h H s){l:Addr}{es:List (PV×PV)}{n:Nat}(e:H l=some (.dict es n))(ko:Bw es){k v:PV}(kk:Cz k){kv u:Ac}(rk:AP h k kv)(rv:AP h v u)(hu:A.units+101<cLine)
  (q:ZP l es n k v H Q (EH k es)):wpAny (model X.prog X.w) A (call (.builtin "dict.setdefault") [.ref l,kv,u]) post E s:=by
 refine AB (O.isDict e) fun ds g r=>?_
 have hT:s.TypeIs (.ref l) "dict":=⟨_,g,rfl⟩
 have dl:=r.len
 have kz:=ko.2.2.1
 refine B4 GZ hT PySem.F.entry_dict_setdefault ?_ (PySem.F.args_dict_setdefault_3 _ _ _)
 refine A7 (A7 (D9 hT ?_))
 refine(?_:wpAny _ _ (pure (l,kv,some u)) _ _ s)
 refine A9 ?_
 dsimp only
 rw[if_neg (by rw[O.notSys e];decide)]
 refine A7 ?_
 refine(?_:wpAny _ _ (dictSetDefault l kv u) _ _ s)
 refine Ay (A7 (Lc kk.1 (AP.keeps O.keep _ rk) (by have:=kk.2.1;refine(?_:A.units+1+_+1<_);exact(Al [_,_,_] 0x2441405555071810224652805502) hu this) fun tk=>?_))
 refine A7 (Hj (s:={s with toks:=tk}) g (r.keeps O.keep) ko kk (AP.keeps O.keep _ rk) (by refine(?_:A.units+1+100<_);assumption) ?_)
 have O':Own X h H {s with toks:=tk}:=O.tok
 have en:=@Ny k es
 cases z:at_ k es with
 |none=>
  rw[z] at en
  rw[en] at q
  refine A7 (Cs (A7 (Jp (s:={s with toks:=tk}) g rfl ?_ (by rw[AE,AV];exact(Al [_,_] 0x10000007800186a0581020112) dl kz) (by simp))))
  refine A9 (A9 ⟨_,rfl,P.here (O'.upd (po':= .dict (es++[(k,v)]) (n+1)) e (Au ..) ⟨_,AK _ g rfl,_,rfl,?_⟩) rv q⟩)
  simpa using r.snoc rk rv
 |some i=>
  refine AI (PP z) fun v' ev=>?_
  rw[z,D4,ev] at en
  rw[en] at q
  have hl:i<ds.length:=by rw[←r.len];exact(A_.mp ev).1
  refine L6 (r.get (Ah hl)) fun x a uu rv' uu=>?_
  rw[ev] at a
  replace a:=Ai a;subst a
  refine A7 (Cf (s:={s with toks:=tk}) g rfl ?_)
  rw[show ds.toArray[i]? =ds[i]? by simp,Ah hl]
  exact A7 (Cs (A9 (A9 ⟨_,rfl,P.here O' rv' q⟩)))
theorem Y9 (P:EG X h Q post)(O:Own X h H s){l:Addr}{es:List (PV×PV)}{n:Nat}(e:H l=some (.dict es n))(ko:Bw es){k v:PV}(kk:Cz k){kv:Ac}(rk:AP h k kv)(hu:A.units+101<cLine)
  (en:EH k es=some v)(q:Q v (H.set l (.dict (Wp k es) (n+1)))):wpAny (model X.prog X.w) A (call (.builtin "dict.pop") [.ref l,kv]) post E s:=by
 refine AB (O.isDict e) fun ds g r=>?_
 have hT:s.TypeIs (.ref l) "dict":=⟨_,g,rfl⟩
 have dl:=r.len
 have kz:=ko.2.2.1
 have en2:=@Ny k es
 rw[en] at en2
 obtain ⟨i,z⟩:∃i,at_ k es=some i:=by
  cases z:at_ k es with
  |none=>rw[z] at en2;exact HJ en2
  |some i=>exact⟨i,rfl⟩
 refine AI (PP z) fun v' ev=>?_
 rw[z,D4,ev] at en2
 replace en2:=Ai en2;subst en2
 have hl:i<ds.length:=by rw[←r.len];exact(A_.mp ev).1
 refine L6 (r.get (Ah hl)) fun x a uu rv' uu=>?_
 rw[ev] at a
 replace a:=Ai a;subst a
 have ne:ds.toArray.isEmpty=false:=by
  induction ds using Az with
  |nil=>simp at hl
  |cons _ _=>rfl
 refine B4 KZ hT PySem.F.entry_dict_pop ?_ (PySem.F.args_dict_pop_2 _ _)
 refine A7 (A7 (D9 hT ?_))
 refine(?_:wpAny _ _ (pure (l,kv,none)) _ _ s)
 refine A9 ?_
 dsimp only
 have tail:wpAny (model X.prog X.w) A.in1 (Builtin.Dict.takeOut l kv) (fun o s'=>∃d,o=some d∧post d.val s') E s:=by
  refine Ay (A7 (Lc kk.1 (AP.keeps O.keep _ rk) (by have:=kk.2.1;refine(?_:A.units+1+_+1<_);exact(Al [_,_,_] 0x2441405555071810224652805502) hu this) fun tk=>?_))
  refine A7 (Hj (s:={s with toks:=tk}) g (r.keeps O.keep) ko kk (AP.keeps O.keep _ rk) (by refine(?_:A.units+1+100<_);assumption) ?_)
  have O':Own X h H {s with toks:=tk}:=O.tok
  rw[z]
  dsimp only
  refine A7 (Cf (s:={s with toks:=tk}) g rfl ?_)
  rw[show ds.toArray[i]? =ds[i]? by simp,Ah hl]
  dsimp only
  refine A7 (wpAny_updateDictKeysTo (s:={s with toks:=tk}) g rfl (A9 ⟨_,rfl,?_⟩) ?_)
  ·refine P.here (O'.upd (po':= .dict (Wp k es) (n+1)) e (Au ..) ⟨_,AK _ g rfl,ds.eraseIdx i,?_,?_⟩) rv' q
   ·exact congrArg (fun z=>({cls:= .type "dict",data:= .dict z (n+1)}:Obj)) (Dr ..)
   ·rw[UX z];exact r.erase i
  ·simp only[Dr,AE,AV]
   have:=List.length_eraseIdx_le ds i
   exact(Al [_,_,_] 0x41000000785002002186a0581022112) dl kz this
 have fin:∀(o:Option DictEntry) s',(∃d,o=some d∧post d.val s')→wpAny (model X.prog X.w) A.in1 (if o.isNone=true then do
   Builtin.Dict.missedRemoval l kv
   match o,(none:Option Ac) with
    |some e,x=>do letGo [e.key] [e.val];ret e.val
    |none,some x=>do rule "dict.pop.default";ret x
    |none,none=>do rule "dict.pop.keyerror";let __do_lift←newExc (E_ "KeyError") [kv];raiseNew __do_lift
  else match o,(none:Option Ac) with
    |some e,x=>do letGo [e.key] [e.val];ret e.val
    |none,some x=>do rule "dict.pop.default";ret x
    |none,none=>do rule "dict.pop.keyerror";let __do_lift←newExc (E_ "KeyError") [kv];raiseNew __do_lift) (fun fin s'=>∃v,fin= .done (.ret v)∧post v s') E s':=by
  intro o s' z22;refine AB z22 fun d z1 p=>?_;clear z22;subst z1
  exact IY AD (A7 (wpAny_letGo (A9 ⟨_,rfl,p⟩)))
 by_cases kp:(keyPart kv).isSome=true
 ·rw[if_pos kp]
  exact A7 (A9 (IY AD (A7 (Dc tail (fun o s' hh=>fin o s' hh) fun uu uu q=>q))))
 ·rw[if_neg kp]
  refine A7 (Cf g rfl ?_)
  refine A7 (A9 ?_)
  rw[ne]
  refine IY AD ?_
  exact A7 (Dc tail (fun o s' hh=>fin o s' hh) fun uu uu q=>q)
end
end
section
open Classical
section
variable {X:Ctx}{h:Heap}{H:AH}{s:Ad}{A:B2}{E:Ac→Ad→Prop}{Q:PV→AH→Prop}{post:Ac→Ad→Prop}
theorem NC {p:PV}{v:Ac}{K:Bool→Prop}{post:Bool→Ad→Prop}(r:AP h p v)(t:G7 p K)(q:∀b,K b→post b s):wpAny (model X.prog X.w) A (truthy v) post E s:=by
 induction p using Mine.Internal.PV.casesOn with
 |none=>cases Gx r;exact A9 (q _ t)
 |bool b=>cases Lm r;exact A9 (q _ t)
 |_=>exact t.elim
theorem cm {d:Nat}{op:UnaryOp}{a:PV}(v:b6 op a H Q):Op X d (fun vs=>unaryOp op (vs.getD 0 .none)) [a] H Q:=by
 refine eH fun h s u A E post x O ra ok P=>?_
 induction op using Da with
 |Not=>exact not_of (NC ra v fun b q=>P.here O (by refine AP.b' ?_;rfl) q)
 |USub=>
  replace v:=Dm v
  revert v;refine fun zq=>AB zq fun i z1 v=>?_;clear zq;subst z1
  refine EJ ra fun t=>?_
  exact N8 (P.here O.tok (by refine AP.i' ?_;exact⟨_,rfl⟩) v)
 |_=>exact v.elim
theorem U_ {k:Int}{n:Nat}(h0:0≤k)(h1:k.toNat<n):seqIndex? k n=some k.toNat:=by
 unfold seqIndex?
 rw[if_neg (by x_go:¬k<0)]
 simp only[D1,decide_eq_true_eq]
 rw[if_pos ⟨h0,by x_go⟩];rfl
theorem ND (O:Own X h H s){l:Addr}{vs:List PV}{v:PV}{z:Ac}{k:Int}{t:Tok}(e:H l=some (.list vs))(h0:0≤k)(hfit:k<2 ^ 62)(hn:k.toNat<vs.length)(hz:vs.length≤100000)(rw_:AP h v z)
  {post:Unit→Ad→Prop}(q:∀s',Own X h (H.set l (.list (vs.set k.toNat v))) s'→post () s'):wpAny (model X.prog X.w) A (setItem (.ref l) (.int k t) z) post E s:=by
 refine BT (O.isList e) fun xs n g r=>?_
 have z1:=r.len
 have hT:s.TypeIs (.ref l) "list":=⟨_,g,rfl⟩
 refine Ay (A7 (Fh hT (by decide) ?_))
 refine A7 (Bm (name:=A8 "__setitem__") hT LN
  (B4 LN hT entry_list_setitem ?_ (args_list_setitem _ _ _)))
 refine(?_:wpAny _ _ (Builtin.List.listSubscript? (.int k t)>>=_) _ _ s)
 refine A7 (wpAny_listSubscript_int (fitsIndex_of h0 (by x_go)) ?_)
 refine AI (Int.eq_ofNat_of_zero_le h0) fun j z1=>?_;subst z1
 have hj:j<xs.toArray.size:=by simp at hn ⊢;exact(Al [_,_,_] 0x140502405021212) z1 hn
 have hx':xs.toArray[j]? =some xs.toArray[j]:=Bn hj
 refine(?_:wpAny _ _ ((seqItemAt l j>>=fun r=>pure (r.map (j,·)))>>=_) _ _ s)
 refine A7 (A7 (wpAny_seqItemAt g rfl (A9 ?_)))
 rw[hx']
 refine(?_:wpAny _ _ (setSeqItemAt l j z>>=_) _ _ s)
 refine A7 (wpAny_setSeqItemAt g rfl ?_)
 have fin:=q _ (O.seq (ws:=vs.set j v) (ys:=xs.set j z) e g (·.setIfInBounds j z) (by simp) (r.set rw_ j))
 first
  |exact A7 (A9 (A9 ⟨.none,rfl,A9 fin⟩))
  |exact A9 ⟨.none,rfl,A9 fin⟩
theorem SS {a:PV}{vs:List PV}(da:a.data=true)(dv:C9 vs=true):(Em vs).any (fun y=>IN y (Ig a))=decide (a∈vs):=by
 induction vs with
 |nil=>exact(decide_eq_false Be).symm
 |cons p ps ih=>
  replace dv:=Ae.mp dv
  refine(congr (congrArg or (Ih p a dv.1 da)) (ih dv.2)).trans ?_
  simp only[Aq]
  rw[←Bool.decide_or _ _]
  congr 1
  exact propext ⟨fun z=>z.elim (fun e=> .inl e.symm) .inr,fun z=>z.elim (fun e=> .inl e.symm) .inr⟩
theorem PW {op:Bool}{a b:PV}{u v:Ac}{K:Bool→Prop}{post:Ac→Ad→Prop}(ra:AP s.heap a u)(rb:AP s.heap b v)(t:Ty a b K)(hu:A.units+200<cLine)
  (q:∀c,K c→post (.bool (op ^^ c)) s):wpAny (model X.prog X.w) A (compareOp (if op then .NotEq else .Eq) u v) post E s:=by
 refine Eb t fun d1 d2 e1 e2 k=>?_;clear t
 induction op using AX
 ·exact Zt d1 d2 ra rb (by exact(Al [_,_,_] 0x2410550642810224c82805502) hu e1) (by simpa using q _ k)
 ·exact Zu d1 d2 ra rb (by exact(Al [_,_,_] 0x2410550642810224c82805502) hu e1) (by simpa using q _ k)
theorem Ya {op:Bool}{xs ys:List PV}{us vs:List Ac}{n n':Nat}{l m:Addr}{K:Bool→Prop}{post:Ac→Ad→Prop}(g:s.heap.get? l=some (Go us n))(r:AG s.heap xs us)
  (g':s.heap.get? m=some (Go vs n'))(r':AG s.heap ys vs)(t:cV K xs ys)(hu:A.units+200<cLine)
  (q:∀c,K c→post (.bool (op ^^ c)) s):wpAny (model X.prog X.w) A (compareOp (if op then .NotEq else .Eq) (.ref l) (.ref m)) post E s:=by
 refine Eb t fun d1 d2 e1 e2 k=>?_;clear t
 refine AI (Fy xs d1 r) fun as ra=>?_
 refine AI (Fy ys d2 r') fun bs rb=>?_
 have r1:Reads s.heap (.ref l) (.list (Em xs)) _:= .list g rfl rfl (by simpa only[CW] using ra)
 have r2:Reads s.heap (.ref m) (.list (Em ys)) _:= .list g' rfl rfl (by simpa only[CW] using rb)
 have hd:=(CO xs d1).2
 have hb:A.units+min (Gr (.list (Em xs))) (Gr (.list (Em ys)))<cLine:=by
  have:=DO (Gr (.list (Em xs))) (Gr (.list (Em ys)))
  simp only[Gr,hd] at this ⊢
  exact(Al [_,_,_,_] 0x34425415c0550642810234c82805502) hu e1
 induction op using AX
 ·exact Ix X.prog X.w A E s _ _ _ _ _ _ _ r1 r2 (by simpa only[GS] using(CO xs d1).1) (by simpa only[GS] using(CO ys d2).1) hb
   (by simp only[IN];rw[MK xs ys d1 d2];simpa using q _ k)
 ·exact Iw X.prog X.w A E s _ _ _ _ _ _ _ r1 r2 (by simpa only[GS] using(CO xs d1).1) (by simpa only[GS] using(CO ys d2).1) hb
   (by simp only[IN];rw[MK xs ys d1 d2];simpa using q _ k)
theorem Own.isSeqL (x:X.In h)(O:Own X h H s){a:Addr}{vs:List PV}(e:IE a X.lst=some vs):∃xs n,s.heap.get? a=some (Go xs n)∧AG h vs xs:=by
 refine BT (x.ls _ _ (Tv e)) fun xs n g r=>?_
 exact Gn xs n (O.keep _ _ g) r
theorem V0 {op:Bool}{l m:Addr}{o:Option (List PV)}{K:Bool→Prop}{post:Ac→Ad→Prop}(O:Own X h H s)(is:∀vs,o=some vs→∃xs n,s.heap.get? l=some (Go xs n)∧AG h vs xs)(t:Tx (H m) K o)(hu:A.units+200<cLine)
  (q:∀c,K c→post (.bool (op ^^ c)) s):wpAny (model X.prog X.w) A (compareOp (if op then .NotEq else .Eq) (.ref l) (.ref m)) post E s:=by
 induction o using Bq with
 |none=>exact t.elim
 |some xs=>
  replace t:=Kn t
  revert t;refine fun zq=>AB zq fun ys e2 t=>?_;clear zq
  refine BT (is _ rfl) fun us n g r=>?_
  refine BT (O.isList e2) fun vs n' g' r'=>?_
  exact Ya g (AG.keeps O.keep _ r) g' (AG.keeps O.keep _ r') t hu q
theorem Xv {op:Bool}{a b:PV}{u v:Ac}{K:Bool→Prop}{post:Ac→Ad→Prop}(x:X.In h)(O:Own X h H s)(ra:AP h a u)(rb:AP h b v)(t:bN X b H K a)(hu:A.units+200<cLine)
  (q:∀c,K c→post (.bool (op ^^ c)) s):wpAny (model X.prog X.w) A (compareOp (if op then .NotEq else .Eq) u v) post E s:=by
 induction a using Mine.Internal.PV.casesOn with
 |loc l=>
  replace t:=Ii t
  revert t;refine fun zq=>AB zq fun m z1 t=>?_;clear zq;subst z1
  cases C6 ra
  cases C6 rb
  exact V0 O (fun vs e=>O.isList (Lj e)) t hu q
 |raw w=>
  replace t:=PL t
  revert t;refine fun zq=>AB zq fun l z1 t=>?_;clear zq;subst z1
  replace t:=Ii t
  revert t;refine fun zq=>AB zq fun m z1 t=>?_;clear zq;subst z1
  cases Ik ra
  cases C6 rb
  exact V0 O (fun vs e=>O.isSeqL x e) t hu q
 |none=>exact PW (AP.keeps O.keep _ ra) (AP.keeps O.keep _ rb) t hu q
 |int i=>exact PW (AP.keeps O.keep _ ra) (AP.keeps O.keep _ rb) t hu q
 |str y=>exact PW (AP.keeps O.keep _ ra) (AP.keeps O.keep _ rb) t hu q
 |tup ps=>exact PW (AP.keeps O.keep _ ra) (AP.keeps O.keep _ rb) t hu q
 |_=>exact t.elim
theorem Xw {op:Bool}{a b:PV}{u v:Ac}{K:Bool→Prop}{post:Ac→Ad→Prop}(O:Own X h H s)(ra:AP h a u)(rb:AP h b v)(t:bP a H K b)(hu:A.units+210<cLine)
  (q:∀c tk,K c→post (.bool (op ^^ c)) {s with toks:=tk}):wpAny (model X.prog X.w) A (compareOp (if op then .NotIn else .In) u v) post E s:=by
 have q':∀c,K c→post (.bool (op ^^ c)) s:=fun c k=>q c s.toks k
 induction b using Mine.Internal.PV.casesOn with
 |tup vs=>
  refine Md rb fun l xs g r=>?_
  refine Eb t fun d1 d2 e1 e2 k=>?_;clear t
  refine AI (Ec a d1 (AP.keeps O.keep _ ra)) fun as r1=>?_
  refine AI (Fy vs d2 (AG.keeps O.keep _ r)) fun bs r2=>?_
  have r3:Reads s.heap (.ref l) (.tuple (Em vs)) _:= .tuple (O.keep _ _ g) rfl rfl (by simpa only[CW] using r2)
  have hb:A.units+1+min (EQ (Em vs)) (Ig a).depth<cLine:=by
   have:=DO (EQ (Em vs)) (Ig a).depth
   rw[(CO vs d2).2] at this ⊢
   exact(Al [_,_,_,_] 0x3421c405550642810234d22805502) hu e2
  induction op using AX
  ·exact PySem.SeqAt.in_tuple_reads r3 r1 (CO vs d2).1 (Df a d1).1 hb (by rw[SS d1 d2];simpa using q' _ k)
  ·exact PySem.SeqAt.notIn_tuple_reads r3 r1 (CO vs d2).1 (Df a d1).1 hb (by rw[SS d1 d2];simpa using q' _ k)
 |loc l=>
  cases C6 rb
  replace t:=Hf t
  focus(revert t;refine fun zo=>Ap zo (fun z0=>?_) fun z0=>?_;rotate_left;clear zo;refine BT z0 fun es n e t=>?_;clear z0;rotate_right;clear zo;refine AB z0 fun vs e t=>?_;clear z0)
  ·refine BT (O.isList e) fun xs n g r=>?_
   refine Eb t fun d1 d2 e1 e2 k=>?_;clear t
   refine AI (Ec a d1 (AP.keeps O.keep _ ra)) fun as r1=>?_
   refine AI (Fy vs d2 (AG.keeps O.keep _ r)) fun bs r2=>?_
   have r3:Reads s.heap (.ref l) (.list (Em vs)) _:= .list g rfl rfl (by simpa only[CW] using r2)
   have hb:A.units+1+min (EQ (Em vs)) (Ig a).depth<cLine:=by
    have:=DO (EQ (Em vs)) (Ig a).depth
    rw[(CO vs d2).2] at this ⊢
    exact(Al [_,_,_,_] 0x3421c405550642810234d22805502) hu e2
   induction op using AX
   ·exact PySem.SeqAt.in_list_reads r3 r1 (CO vs d2).1 (Df a d1).1 hb (by rw[SS d1 d2];simpa using q' _ k)
   ·exact PySem.SeqAt.notIn_list_reads r3 r1 (CO vs d2).1 (Df a d1).1 hb (by rw[SS d1 d2];simpa using q' _ k)
  ·refine DF t fun kk ko k=>?_;clear t
   induction op using AX
   ·refine A7 (Pc O e ko kk ra (by exact(Al [_,_] 0x146528055014d22805502) hu) fun tk=>A9 ?_)
    simpa using q _ tk k
   ·refine A7 (Pc O e ko kk ra (by exact(Al [_,_] 0x146528055014d22805502) hu) fun tk=>A9 ?_)
    simpa using q _ tk k
 |str y=>
  replace t:=SH t
  revert t;refine fun zq=>AB zq fun x z1 t=>?_;clear zq;subst z1
  refine Mc ra fun t1=>?_
  refine Mc rb fun t2=>?_
  induction op using AX
  ·exact PySem.P.in_str (by simpa using q' _ t)
  ·exact PySem.P.notIn_str (by simpa using q' _ t)
 |_=>exact t.elim
theorem Xx {op:Bool}{a:PV}{u:Ac}{K:Bool→Prop}{post:Ac→Ad→Prop}(ra:AP h a u)(t:bQ K a)
  (q:∀c,K c→post (.bool (op ^^ c)) s):wpAny (model X.prog X.w) A (compareOp (if op then .IsNot else .Is) u .none) post E s:=by
 induction a using Mine.Internal.PV.casesOn with
 |none=>
  cases Gx ra
  induction op using AX
  ·exact GR rfl (q true t)
  ·exact Fi rfl (q true t)
 |tup ps=>
  refine Md ra fun l xs g r=>?_
  induction op using AX
  ·exact GR rfl (q false t)
  ·exact Fi rfl (q false t)
 |int i=>
  refine EJ ra fun t1=>?_
  induction op using AX
  ·exact GR rfl (q false t)
  ·exact Fi rfl (q false t)
 |loc l=>
  cases C6 ra
  induction op using AX
  ·exact GR rfl (q false t)
  ·exact Fi rfl (q false t)
 |_=>exact t.elim
theorem ST {op:CmpOp}{a b:PV}{u v:Ac}{K:Bool→Prop}{post:Ac→Ad→Prop}(x:X.In h)(O:Own X h H s)(ra:AP h a u)(rb:AP h b v)(t:Qw X op a b H K)(hu:A.units+210<cLine)
  (q:∀c tk,K c→post (.bool c) {s with toks:=tk}):wpAny (model X.prog X.w) A (compareOp op u v) post E s:=by
 have q':∀c,K c→post (.bool c) s:=fun c k=>q c s.toks k
 have int2:∀{P:Int→Int→Prop},(vI a fun x=>vI b fun y=>P x y)→∃x y t1 t2,u= .int x t1∧v= .int y t2∧P x y:=fun z=>by
  replace z:=Dm z
  revert z;refine fun zq=>AB zq fun x z1 z=>?_;clear zq;subst z1
  replace z:=Dm z
  revert z;refine fun zq=>AB zq fun y z1 z=>?_;clear zq;subst z1
  refine EJ ra fun t1=>?_
  refine EJ rb fun t2=>?_
  exact bD x y t1 t2 rfl rfl z
 induction op using JW with
 |Eq=>exact Xv (op:=false) x O ra rb t (by exact(Al [_,_] 0x14c828055014d22805502) hu) fun c k=>by rw[JD _];exact q' c k
 |NotEq=>exact Xv (op:=true) x O ra rb t (by exact(Al [_,_] 0x14c828055014d22805502) hu) fun c k=>by rw[Kk _];exact q' _ k
 |Lt=>refine Ww (int2 t) fun x y t1 t2 z4 z5 t=>?_;subst z4;subst z5;exact OG (q' _ t)
 |LtE=>refine Ww (int2 t) fun x y t1 t2 z4 z5 t=>?_;subst z4;subst z5;exact PySem.P.le_int (q' _ t)
 |Gt=>refine Ww (int2 t) fun x y t1 t2 z4 z5 t=>?_;subst z4;subst z5;exact JB (q' _ t)
 |GtE=>refine Ww (int2 t) fun x y t1 t2 z4 z5 t=>?_;subst z4;subst z5;exact PySem.P.ge_int (q' _ t)
 |In=>exact Xw (op:=false) O ra rb t hu fun c tk k=>by rw[JD _];exact q c tk k
 |NotIn=>exact Xw (op:=true) O ra rb t hu fun c tk k=>by rw[Kk _];exact q _ tk k
 |Is=>
  replace t:=SI t
  revert t;refine fun zq=>Aw zq fun z0 t=>?_;clear zq;subst z0
  cases Gx rb
  exact Xx (op:=false) ra t fun c k=>by rw[JD _];exact q' c k
 |IsNot=>
  replace t:=SI t
  revert t;refine fun zq=>Aw zq fun z0 t=>?_;clear zq;subst z0
  cases Gx rb
  exact Xx (op:=true) ra t fun c k=>by rw[Kk _];exact q' _ k
theorem Yb {p i:PV}{u v:Ac}{K:PV→Prop}{post:Ac→Ad→Prop}(x:X.In h)(O:Own X h H s)(ra:AP h p u)(rb:AP h i v)(t:P8 i H K p)(hu:A.units+210<cLine)
  (q:∀p v tk,AP h p v→K p→post v {s with toks:=tk}):wpAny (model X.prog X.w) A (getItem u v) post E s:=by
 induction p using Mine.Internal.PV.casesOn with
 |tup vs=>
  replace t:=Dm t
  revert t;refine fun zq=>AB zq fun k z1 t=>?_;clear zq;subst z1
  refine Md ra fun l xs g r=>?_
  refine EJ rb fun t1=>?_
  refine Aw t fun t1 zr=>?_;clear t;refine Aw zr fun t2 zr=>?_;refine AB zr fun p e k1=>?_;clear zr
  refine AB (r.get e) fun w ew rw=>?_
  refine PyProof.Rows.getItem_tuple (t:=l) (items:=xs.toArray) (j:=k.toNat) ⟨_,O.keep _ _ g,rfl,_,rfl⟩ (by x_go) (by x_go) ?_ (by simpa using ew) (q p w s.toks rw k1)
  have:=(A_.mp ew).1
  exact U_ t1 (by simpa using this)
 |str x=>
  replace t:=Dm t
  revert t;refine fun zq=>AB zq fun k z1 t=>?_;clear zq;subst z1
  refine Mc ra fun t0=>?_
  refine EJ rb fun t1=>?_
  refine Aw t fun t1 zr=>?_;clear t;refine Aw zr fun t2 zr=>?_;refine AB zr fun c e k1=>?_;clear zr
  refine PySem.P.getItem_str (c:=c) ?_ ?_ (q _ _ _ (by refine AP.s' ?_;exact⟨_,rfl⟩) k1)
  ·simp;x_go
  ·have:=(A_.mp e).1
   rewrite[show seqIndex? k x.length=some k.toNat from U_ t1 (show k.toNat<x.cps.size by simpa using this)]
   simpa using e
 |loc l=>
  cases C6 ra
  replace t:=Hf t
  focus(revert t;refine fun zo=>Ap zo (fun z0=>?_) fun z0=>?_;rotate_left;clear zo;refine BT z0 fun es n e t=>?_;clear z0;rotate_right;clear zo;refine AB z0 fun vs e t=>?_;clear z0)
  ·replace t:=Dm t
   revert t;refine fun zq=>AB zq fun k z1 t=>?_;clear zq;subst z1
   refine BT (O.isList e) fun xs n g r=>?_
   refine EJ rb fun t0=>?_
   refine Aw t fun t1 zr=>?_;clear t;refine Aw zr fun t2 zr=>?_;refine AB zr fun p e k1=>?_;clear zr
   refine AB (r.get e) fun w ew rw=>?_
   exact wpAny_getItem_list (WC g) t1 (by x_go) (by simpa using ew) (q p w s.toks rw k1)
  ·refine Aw t fun kk zr=>?_;clear t;refine Aw zr fun ko zr=>?_;refine AB zr fun p en k1=>?_;clear zr
   exact Nz O e ko kk rb (by exact(Al [_,_] 0x146528055014d22805502) hu) en fun v tk r=>q p v tk r k1
 |_=>exact t.elim
theorem TJ {p i w:PV}{u v z:Ac}{K:AH→Prop}{post:Unit→Ad→Prop}(x:X.In h)(O:Own X h H s)(ra:AP h p u)(rb:AP h i v)(rw:AP h w z)(t:Ja p i w H K)(hu:A.units+210<cLine)
  (q:∀s' H',Own X h H' s'→K H'→post () s'):wpAny (model X.prog X.w) A (setItem u v z) post E s:=by
 replace t:=Ii t
 revert t;refine fun zq=>AB zq fun l z1 t=>?_;clear zq;subst z1
 cases C6 ra
 replace t:=Hf t
 focus(revert t;refine fun zo=>Ap zo (fun z0=>?_) fun z0=>?_;rotate_left;clear zo;refine BT z0 fun es n e t=>?_;clear z0;rotate_right;clear zo;refine AB z0 fun vs e t=>?_;clear z0)
 ·replace t:=Dm t
  revert t;refine fun zq=>AB zq fun k z1 t=>?_;clear zq;subst z1
  refine BT (O.isList e) fun xs n g r=>?_
  refine EJ rb fun t0=>?_
  refine Eb t fun t1 t2 t3 t4 k1=>?_;clear t
  exact ND O e t1 t2 t3 t4 rw fun s' O'=>q _ _ O' k1
 ·refine DF t fun kk ko k1=>?_;clear t
  exact NB O e ko kk rb rw (by exact(Al [_,_] 0x146528055014d22805502) hu) fun s' O'=>q _ _ O' k1
end
end
section
open Classical
theorem K3:entryFor table "proto.unchain"=some Builtin.«proto.unchain»:=entryFor_of_fast (by kernel_rfl)
def DT (hd:Option Addr)(h:Heap):Prop:=∀a,hd=some a→∃o xs,h.get? a=some o∧o.data= .fields xs∧xs[2]? =some .none
theorem DT.keeps {hd:Option Addr}{h h':Heap}(x:DT hd h)(k:∀b o,h.get? b=some o→h'.get? b=some o):DT hd h':=
 fun a e=>let⟨o,xs,g,r⟩:=x a e;⟨o,xs,k _ _ g,r⟩
section
variable {prog:Program}{w:World}{A:B2}{s:Ad}{hd:Option Addr}
theorem E2 {α:Type}{Q:α→Ad→Prop}{E:Ac→Ad→Prop}(hA:A.handled=hd.map .ref)(hx:DT hd s.heap)
  (k:∀h' e,(∀b o,s.heap.get? b=some o→h'.get? b=some o)→(∃o,h'.get? e=some o∧o.cls= .type "StopIteration")→E (.ref e) {s with heap:=h'}):
  wpAny (model prog w) A (do raiseNew (←newExc (.type "StopIteration") []):Sem α) Q E s:=by
 refine A7 ?_
 refine A7 (Bb ?_ (by size_fits))
 refine A7 (m:=firstArgMember _ _) (Ek (a:=Bl) (by first|rfl|(simp only[firstArgMember];rfl)) ?_)
 refine Bb ?_ (by size_fits)
 refine A7 (wpAny_handled ?_)
 rw[hA]
 have kp:∀(o1 o2:Obj) (b:Addr) (o:Obj),s.heap.get? b=some o→((s.heap.push o1).push o2).get? b=some o:=fun o1 o2 b o e=>Aj _ (Aj _ e)
 induction hd using Bq with
 |none=>
  refine A7 (A9 (Hw ?_))
  exact k _ _ (kp _ _) ⟨_,Ar _ rfl,rfl⟩
 |some a=>
  refine Cv (hx a rfl) fun o xs g d x2=>?_
  have hsz:=Ax g
  have ne:(s.heap.push (seqObj "tuple" ([]:List Ac).toArray 0)).objs.size≠a:=by rw[B3 _ _];exact Cc (BW hsz)
  simp only[By]
  rewrite[if_pos (by simp only[bne_iff_ne,ne_eq,N6];exact fun e=>ne e.symm)]
  refine A7 (Ay (Fm (BZ K3 ?_)))
  refine A7 (C4 (kp _ _ _ _ g) d x2 ?_)
  refine(?_:wpAny _ _ (do return←ret .none) _ _ _)
  refine A7 (A9 (A9 ?_))
  refine A7 ?_
  refine A7 (L0 (Ar _ rfl) ?_)
  dsimp only
  rewrite[if_pos (by simp;exact(Al [_] 0x6185421850))]
  refine wpAny_update (Ar _ rfl) (Hw (k _ _ (fun b o' e=>?_) ⟨_,AK _ (Ar _ rfl) rfl,rfl⟩))
  refine(B0 _ _ ?_).trans (kp _ _ _ _ e)
  rw[B3 _ _]
  exact Cc (BW (Ax e))
theorem V1 {it l:Addr}{i:Nat}{items}{Q:Option Ac→Ad→Prop}{E:Ac→Ad→Prop}(hA:A.handled=hd.map .ref)(hx:DT hd s.heap)(hne:∀a,hd=some a→a≠it)
  (hit:s.heap.IsListIter it l i)(hl:s.heap.IsList l items)(hn:items[i]? =none)
  (hQ:∀h',F0 it s.heap h'→Q none {s with heap:=h'}):wpAny (model prog w) A (pyNext (.ref it)) Q E s:=by
 refine CP (id hit) fun o ho hc hdt=>?_
 refine AI hl fun ol zr=>?_;clear hl;refine Aw zr fun hol zr=>?_;refine Aw zr fun uu zr=>?_;refine AI zr fun nl hdl=>?_;clear zr
 refine A7 (Ds (Bm (name:=A8 "__next__") hit.typeIs KF
  (B4 KF hit.typeIs entry_listiter_next ?_ (args_listiter_next _))))
 refine(?_:wpAny _ _ (field (.ref it) 0>>=_) _ _ s)
 refine A7 (C4 ho hdt (x:= .ref l) rfl ?_)
 refine(?_:wpAny _ _ (if(BY l == Bl)=true then _ else _) _ _ s)
 rewrite[if_neg (show¬((BY l == Bl)=true) from AD)]
 refine(?_:wpAny _ _ (field (.ref it) 1>>=_) _ _ s)
 refine A7 (C4 ho hdt (x:= .int i 0) rfl ?_)
 refine(?_:wpAny _ _ (seqItems? (.ref l)>>=_) _ _ s)
 refine A7 (DC hol hdl ?_)
 simp only[B7,hn]
 refine A7 (Cs (A7 (Bv ho hdt (by exact BK _) ?_)))
 refine E2 (hd:=hd) hA (fun a e=>?_) fun h' e kk y=>?_
 ·refine BT (hx a e) fun o' xs g r=>?_
  exact Gn o' xs (((Au ..).2 a (hne a e)).trans g) r
 refine AB y fun oe ge ce=>?_;clear y
 refine A7 (BS (T:="StopIteration") (b:=true) ⟨oe,ge,ce⟩ D8 ?_)
 exact A9 (hQ _ fun b ob nb e=>kk b ob (((Au ..).2 b nb).trans e))
theorem TK {it l:Addr}{i:Nat}{items}{Q:Option Ac→Ad→Prop}{E:Ac→Ad→Prop}(hA:A.handled=hd.map .ref)(hx:DT hd s.heap)(hne:∀a,hd=some a→a≠it)
  (hit:s.heap.IsTupleIter it l i)(hl:s.heap.IsTuple l items)(hn:items[i]? =none)
  (hQ:∀h',F0 it s.heap h'→Q none {s with heap:=h'}):wpAny (model prog w) A (pyNext (.ref it)) Q E s:=by
 refine CP (id hit) fun o ho hc hdt=>?_
 refine AI hl fun ol zr=>?_;clear hl;refine Aw zr fun hol zr=>?_;refine Aw zr fun uu zr=>?_;refine AI zr fun nl hdl=>?_;clear zr
 refine A7 (Ds (Bm (name:=A8 "__next__") hit.typeIs GK
  (B4 GK hit.typeIs F.entry_tuple_iterator_next ?_ (F.args_tuple_iterator_next_1 _))))
 refine(?_:wpAny _ _ (field (.ref it) 0>>=_) _ _ s)
 refine A7 (C4 ho hdt (x:= .ref l) rfl ?_)
 refine(?_:wpAny _ _ (if(BY l == Bl)=true then _ else _) _ _ s)
 rewrite[if_neg (show¬((BY l == Bl)=true) from AD)]
 refine(?_:wpAny _ _ (field (.ref it) 1>>=_) _ _ s)
 refine A7 (C4 ho hdt (x:= .int i 0) rfl ?_)
 refine(?_:wpAny _ _ (seqItems? (.ref l)>>=_) _ _ s)
 refine A7 (DC hol hdl ?_)
 simp only[B7,hn]
 refine A7 (Cs (A7 (Bv ho hdt (by exact BK _) ?_)))
 refine E2 (hd:=hd) hA (fun a e=>?_) fun h' e kk y=>?_
 ·refine BT (hx a e) fun o' xs g r=>?_
  exact Gn o' xs (((Au ..).2 a (hne a e)).trans g) r
 refine AB y fun oe ge ce=>?_;clear y
 refine A7 (BS (T:="StopIteration") (b:=true) ⟨oe,ge,ce⟩ D8 ?_)
 exact A9 (hQ _ fun b ob nb e=>kk b ob (((Au ..).2 b nb).trans e))
theorem TM {it:Addr}{x left step:Int}{Q:Option Ac→Ad→Prop}{E:Ac→Ad→Prop}(hA:A.handled=hd.map .ref)(hx:DT hd s.heap)
  (hit:IsRangeIter s.heap it x left step)(hleft:left≤0)
  (hQ:∀h',F0 it s.heap h'→Q none {s with heap:=h'}):wpAny (model prog w) A (pyNext (.ref it)) Q E s:=by
 have hT:s.TypeIs (.ref it) "range_iterator":=⟨_,hit,rfl⟩
 refine A7 (Ds (Bm (name:=A8 "__next__") hT GN
  (B4 GN hT F.entry_range_iterator_next ?_ (F.args_range_iterator_next_1 _))))
 refine(?_:wpAny _ _ (field (.ref it) 0>>=_) _ _ s)
 refine A7 (C4 hit rfl (x:=rawInt x) rfl ?_)
 refine(?_:wpAny _ _ (field (.ref it) 1>>=_) _ _ s)
 refine A7 (C4 hit rfl (x:=rawInt left) rfl ?_)
 refine(?_:wpAny _ _ (field (.ref it) 2>>=_) _ _ s)
 refine A7 (C4 hit rfl (x:=rawInt step) rfl ?_)
 refine(?_:wpAny _ _ (if left≤0 then _ else _) _ _ s)
 rw[if_pos hleft]
 refine A7 (Cs ?_)
 refine A7 ?_
 refine E2 (hd:=hd) hA hx fun h' e kk y=>?_
 refine AB y fun oe ge ce=>?_;clear y
 refine A7 (BS (T:="StopIteration") (b:=true) ⟨oe,ge,ce⟩ D8 ?_)
 exact A9 (hQ _ fun b ob nb e=>kk b ob e)
theorem TN {it:Addr}{x:Str}{t:Tok}{i:Nat}{Q:Option Ac→Ad→Prop}{E:Ac→Ad→Prop}(hA:A.handled=hd.map .ref)(hx:DT hd s.heap)(hne:∀a,hd=some a→a≠it)
  (hit:s.heap.IsStrIter it "str_ascii_iterator" x t i)(hn:x.cps[i]? =none)
  (hQ:∀h',F0 it s.heap h'→Q none {s with heap:=h'}):wpAny (model prog w) A (pyNext (.ref it)) Q E s:=by
 refine CP (id hit) fun o ho hc hdt=>?_
 refine A7 (Ds (Bm (name:=A8 "__next__") hit.typeIs FG
  (B4 FG hit.typeIs F.entry_str_ascii_iterator_next ?_ (F.args_str_ascii_iterator_next_1 _))))
 refine(?_:wpAny _ _ (field (.ref it) 0>>=_) _ _ s)
 refine A7 (C4 ho hdt (x:= .str x t) rfl ?_)
 refine(?_:wpAny _ _ (field (.ref it) 1>>=_) _ _ s)
 refine A7 (C4 ho hdt (x:= .int i 0) rfl ?_)
 simp only[B7,hn]
 refine A7 (Cs (A7 (Bv ho hdt (by exact BK _) (A7 (wpAny_letGo ?_)))))
 refine E2 (hd:=hd) hA (fun a e=>?_) fun h' e kk y=>?_
 ·refine BT (hx a e) fun o' xs g r=>?_
  exact Gn o' xs (((Au ..).2 a (hne a e)).trans g) r
 refine AB y fun oe ge ce=>?_;clear y
 refine A7 (BS (T:="StopIteration") (b:=true) ⟨oe,ge,ce⟩ D8 ?_)
 exact A9 (hQ _ fun b ob nb e=>kk b ob (((Au ..).2 b nb).trans e))
end
end
section
open Classical
inductive Src where
 |list (a:Addr)
 |tup (t:Addr)
 |rng (lo:Int)(n:Nat)
 |keys (d:Addr)(n ep:Nat)
 |str (x:Str)(t:Tok)
def FU (o:Obj)(i:Nat):Src→Prop
 | .list a=>o.cls= .type "list_iterator"∧o.data= .fields #[.ref a, .int i 0]
 | .tup t=>o.cls= .type "tuple_iterator"∧o.data= .fields #[.ref t, .int i 0]
 | .rng lo n=>o={cls:= .type "range_iterator",dict:=none,data:= .fields #[rawInt (lo+i),rawInt ((n:Int) -i),rawInt 1],slots:=#[]}
 | .keys d n ep=>o.cls= .type "dict_keyiterator"∧o.data= .fields #[.ref d, .int i 0, .int n 0, .int ep 0]
 | .str x t=>o.cls= .type "str_ascii_iterator"∧o.data= .fields #[.str x t, .int i 0]
def NE (h:Heap)(ok:AH→Prop)(items:List PV):Src→Prop
 | .list a=>∀H,ok H→H a=some (.list items)
 | .tup t=>∃xs,h.get? t=some (Gv xs)∧AG h items xs
 | .rng lo n=>items=(Am n).map fun i=> .int (lo+BQ i)
 | .keys d n ep=>(d == sysModules)=false∧∃es,(∀H,ok H→H d=some (.dict es ep))∧items=es.map (·.1)∧n=es.length
 | .str x t=>items=x.cps.toList.map fun c=> .str ⟨#[c]⟩
theorem NE.keeps {h h':Heap}{ok:AH→Prop}{items:List PV}(k:BH h h'):∀{src:Src},NE h ok items src→NE h' ok items src
 | .list _,f=>f
 | .tup _,⟨xs,g,r⟩=>⟨xs,k _ _ g,r.keeps k⟩
 | .rng _ _,f=>f
 | .keys _ _ _,f=>f
 | .str _ _,f=>f
theorem FU.plain {o:Obj}{i:Nat}:∀{src:Src},FU o i src→DQ o∧o.isFreed=false
 | .list _,⟨c,d⟩| .tup _,⟨c,d⟩| .keys _ _ _,⟨c,d⟩| .str _ _,⟨c,d⟩=>
  ⟨⟨fun xs q=>by(rw[q] at d;cases d),fun C d' q=>by(rw[q] at d;cases d),fun vs q=>by(rw[q] at c;exact absurd c (by simp))⟩,BB d⟩
 | .rng _ _,e=>by
  unfold FU at e
  subst e
  exact⟨⟨fun xs q=>absurd (congrArg OO q) (by intro e;cases e),fun C d' q=>absurd (congrArg OO q) (by intro e;cases e),fun vs q=>absurd (congrArg Obj.cls q) (by simp)⟩,rfl⟩
section
variable {X:Ctx}{h:Heap}{H:AH}{s:Ad}{A:B2}{E:Ac→Ad→Prop}{d:Nat}
theorem OR {d:Addr}{ds:List DictEntry}{n:Nat}{Q:Ac→Ad→Prop}(hd:(d == sysModules)=false)(ho:s.heap.get? d=some (JQ ds n))
  (hQ:Q (.ref s.heap.objs.size) {s with heap:=s.heap.push {cls:= .type "dict_keyiterator",data:= .fields #[.ref d, .int 0 0, .int ds.length 0, .int n 0]}}):
  wpAny (model X.prog X.w) A (pyIter (.ref d)) Q E s:=by
 have hT:s.TypeIs (.ref d) "dict":=⟨_,ho,rfl⟩
 refine Hq hT MH (B4 MH hT F.entry_dict_iter ?_ (F.args_dict_iter_1 _))
 refine A7 ?_
 refine A7 (D9 hT ?_)
 refine(?_:wpAny _ _ (pure (BY d)) _ _ s)
 refine A9 ?_
 refine(?_:wpAny _ _ (J7 d>>=_) _ _ s)
 unfold J7
 rw[if_neg (by rw[hd];exact AD)]
 refine A7 (A9 ?_)
 refine A7 (Cf ho rfl ?_)
 refine A7 (Dh ho rfl ?_)
 refine A7 (Bb (A9 ⟨_,rfl,"dict_keyiterator",_,⟨_,Ar _ rfl,rfl⟩,Ci.lookup,?_⟩))
 simpa [rawInt] using hQ
theorem QC {it d:Addr}{i n:Nat}{ds:List DictEntry}{o:Obj}{e:DictEntry}{Q:Option Ac→Ad→Prop}(ho:s.heap.get? it=some o)(hc:o.cls= .type "dict_keyiterator")(hd:o.data= .fields #[.ref d, .int i 0, .int ds.length 0, .int n 0])
  (hod:s.heap.get? d=some (JQ ds n))(he:ds[i]? =some e)
  (hQ:∀h' o',h'.get? it=some o'→o'.cls= .type "dict_keyiterator"→o'.data= .fields #[.ref d, .int (i+1:Nat) 0, .int ds.length 0, .int n 0]→Cm it s.heap h'→Q (some e.key) {s with heap:=h'}):
  wpAny (model X.prog X.w) A (pyNext (.ref it)) Q E s:=by
 have hT:s.TypeIs (.ref it) "dict_keyiterator":=⟨o,ho,hc⟩
 refine A7 (Ds (Bm (name:=A8 "__next__") hT Ci
  (B4 Ci hT G0 ?_ (FH _))))
 refine A7 (A9 ?_)
 refine A7 ?_
 refine A7 ?_
 first|refine A7 (CI hT (A9 ?_))|refine A7 (Dp hT (A9 ?_))
 refine A7 (Jz ho hd ?_)
 have hown:G9 "dict_keyiterator"=false:=by decide
 rewrite[hown]
 refine(?_:wpAny _ _ (if(BY d == Bl)=true then _ else _) _ _ s)
 rewrite[if_neg (show¬((BY d == Bl)=true) from AD)]
 refine A7 (A9 ?_)
 refine A7 (Cf hod rfl ?_)
 rw[if_neg (by simp)]
 refine A7 (A9 ?_)
 refine A7 (Dh hod rfl ?_)
 rw[if_neg (by simp)]
 refine A9 ?_
 have he':ds.toArray[i]? =some e:=by simpa using he
 dsimp only
 rewrite[if_neg (show¬((i:Int)<0) from EZ.mpr (AY _))]
 refine rwL he' ?_
 refine A7 ?_
 first|refine A7 (CI hT (A9 ?_))|refine A7 (Dp hT (A9 ?_))
 refine A7 (J0 hT ?_)
 refine(?_:wpAny _ _ (setField (.ref it) 1 (rawInt ((i:Int)+1))>>=_) _ _ s)
 refine A7 (Bv ho hd (by simp) ?_)
 have g':=AK (Bu (·.setIfInBounds 1 (rawInt ((i:Int)+1)))) ho (BB (Ba hd _))
 have c':=(CQ o (·.setIfInBounds 1 (rawInt ((i:Int)+1)))).trans hc
 refine A7 (Ay ?_)
 refine A7 (J0 (s:={s with heap:=s.heap.update it (Bu (·.setIfInBounds 1 (rawInt ((i:Int)+1))))}) ⟨_,g',c'⟩ ?_)
 refine(?_:wpAny _ _ (pure e.key) _ _ _)
 exact A9 (A9 ⟨_,rfl,A9 (hQ _ _ g' c' (by rw[Ba hd _];simp[rawInt]) (Au ..))⟩)
theorem RA {it d:Addr}{i n:Nat}{ds:List DictEntry}{o:Obj}{Q:Option Ac→Ad→Prop}(hA:A.handled=X.exc.map .ref)(hx:DT X.exc s.heap)(hne:∀a,X.exc=some a→a≠it)
  (ho:s.heap.get? it=some o)(hc:o.cls= .type "dict_keyiterator")(hd:o.data= .fields #[.ref d, .int i 0, .int ds.length 0, .int n 0])
  (hod:s.heap.get? d=some (JQ ds n))(he:ds.length≤i)
  (hQ:∀h',F0 it s.heap h'→Q none {s with heap:=h'}):wpAny (model X.prog X.w) A (pyNext (.ref it)) Q E s:=by
 have hT:s.TypeIs (.ref it) "dict_keyiterator":=⟨o,ho,hc⟩
 refine A7 (Ds (Bm (name:=A8 "__next__") hT Ci
  (B4 Ci hT G0 ?_ (FH _))))
 refine A7 (A9 ?_)
 refine A7 ?_
 refine A7 ?_
 first|refine A7 (CI hT (A9 ?_))|refine A7 (Dp hT (A9 ?_))
 refine A7 (Jz ho hd ?_)
 have hown:G9 "dict_keyiterator"=false:=by decide
 rewrite[hown]
 refine(?_:wpAny _ _ (if(BY d == Bl)=true then _ else _) _ _ s)
 rewrite[if_neg (show¬((BY d == Bl)=true) from AD)]
 refine A7 (A9 ?_)
 refine A7 (Cf hod rfl ?_)
 rw[if_neg (by simp)]
 refine A7 (A9 ?_)
 refine A7 (Dh hod rfl ?_)
 rw[if_neg (by simp)]
 refine A9 ?_
 have he':ds.toArray[i]? =none:=by simpa using he
 dsimp only
 rewrite[if_neg (show¬((i:Int)<0) from EZ.mpr (AY _))]
 refine rwL he' ?_
 refine A7 ?_
 first|refine A7 (CI hT (A9 ?_))|refine A7 (Dp hT (A9 ?_))
 refine(?_:wpAny _ _ (setField (.ref it) 0 .none>>=_) _ _ s)
 refine A7 (Bv ho hd (by exact BK _) ?_)
 refine E2 (hd:=X.exc) hA (fun a e=>?_) fun h' e kk y=>?_
 ·refine BT (hx a e) fun o' xs g r=>?_
  exact Gn o' xs (((Au ..).2 a (hne a e)).trans g) r
 refine AB y fun oe ge ce=>?_;clear y
 refine A7 (BS (T:="StopIteration") (b:=true) ⟨oe,ge,ce⟩ D8 ?_)
 exact A9 (hQ _ fun b ob nb e=>kk b ob (((Au ..).2 b nb).trans e))
theorem Mf {ok:AH→Prop}{items:List PV}{src:Src}{I:Addr}{o:Obj}{i:Nat}{post:Option Ac→Ad→Prop}(x:X.In h)(O:Own X h H s)(f:NE h ok items src)(hok:ok H)(g:s.heap.get? I=some o)(t:FU o i src)
  (hI:h.get? I=none)(HI:H I=none)(hA:A.handled=X.exc.map .ref)(hi:i≤items.length)
  (item:∀p v h' o' tk,s.toks≤tk→items[i]? =some p→AP h p v→h'.get? I=some o'→FU o' (i+1) src→Cm I s.heap h'→post (some v) {s with heap:=h',toks:=tk})
  (done:items.length≤i→∀h',F0 I s.heap h'→post none {s with heap:=h'}):wpAny (model X.prog X.w) A (pyNext (.ref I)) post E s:=by
 have hx:DT X.exc s.heap:=DT.keeps x.ex O.keep
 have hne:∀a,X.exc=some a→a≠I:=fun a e q=>by
  refine BT (x.ex a e) fun o' xs g' uu=>?_
  rw[q,hI] at g'
  exact CC g'
 induction src using Mine.Internal.Src.casesOn with
 |list a=>
  refine Aw t fun c dd=>?_;clear t
  refine BT (O.isList (f H hok)) fun xs n ga r=>?_
  have z:=r.len
  refine Ap (Cy i items.length) (fun lt=>?_) fun ge=>?_
  ·have e1:items[i]? =some items[i]:=Ah lt
   refine AB (r.get e1) fun v e2 rv=>?_
   refine wpAny_pyNext_list_item ⟨o,g,c,dd⟩ (WC ga) (by simpa using e2) fun h' hit sb=>?_
   refine AB hit fun o' g' t'=>?_;clear hit
   exact item _ v h' o' s.toks (Ak _) e1 rv g' t' sb
  ·exact V1 hA hx hne ⟨o,g,c,dd⟩ (WC ga) (by simp;exact(Al [_,_,_] 0x10012020212) z ge) (done ge)
 |tup t=>
  refine Aw t fun c dd=>?_;clear t
  refine AB f fun xs ga r=>?_;clear f
  have ga:=O.keep _ _ ga
  have z:=r.len
  refine Ap (Cy i items.length) (fun lt=>?_) fun ge=>?_
  ·have e1:items[i]? =some items[i]:=Ah lt
   refine AB (r.get e1) fun v e2 rv=>?_
   refine wpAny_pyNext_tuple_item (items:=xs.toArray) ⟨o,g,c,dd⟩ ⟨_,ga,rfl,_,rfl⟩ (by simpa using e2) fun h' hit sb=>?_
   refine AB hit fun o' g' t'=>?_;clear hit
   exact item _ v h' o' s.toks (Ak _) e1 rv g' t' sb
  ·exact TK (items:=xs.toArray) hA hx hne ⟨o,g,c,dd⟩ ⟨_,ga,rfl,_,rfl⟩ (by simp;exact(Al [_,_,_] 0x10012020212) z ge) (done ge)
 |rng lo n=>
  unfold FU at t
  subst t
  unfold NE at f
  subst f
  simp only[Ag,AO] at hi done
  refine Ap (Cy i n) (fun lt=>?_) fun ge=>?_
  ·refine wpAny_pyNext_range_item g (by x_go) fun h' hit sb=>?_
   refine item (.int (lo+BQ i)) _ h' _ _ (BM _) ?_ ?_ hit ?_ sb
   ·simp[lt]
   ·refine AP.i' ?_;exact⟨_,rfl⟩
   ·unfold FU
    have e1:lo+(i:Int)+1=lo+((i+1:Nat):Int):=by x_go
    have e2:(n:Int) -i-1=(n:Int) -((i+1:Nat):Int):=by x_go
    rw[e1,e2];rfl
  ·exact TM hA hx g (by x_go) (done ge)
 |keys dd n ep=>
  refine Aw t fun c dt=>?_;clear t
  refine Aw f fun hs zr=>?_;clear f;refine CP zr fun es q z2 z3=>?_;clear zr;subst z2;subst z3
  refine AB (O.isDict (q H hok)) fun ds gd r=>?_
  have z:=r.len
  rw[z] at dt
  refine Ap (Cy i es.length) (fun lt=>?_) fun ge=>?_
  ·have e1:ds[i]? =some ds[i]:=Ah (by exact(Al [_,_,_] 0x140502405021212) z lt)
   refine L6 (r.get e1) fun y e2 r1 r2 uu=>?_
   refine QC g c dt gd e1 fun h' o' g' c' d' sb=>?_
   refine item y.1 _ h' o' s.toks (Ak _) (by rw[Bc,e2];rfl) r1 g' ⟨c',?_⟩ sb
   rw[z]
   exact d'
  ·exact RA hA hx hne g c dt gd (by exact(Al [_,_,_] 0x10012020212) z ge) (done (by simpa using ge))
 |str x t=>
  refine Aw t fun c dd=>?_;clear t
  unfold NE at f
  subst f
  simp only[Ag] at hi done
  refine Ap (Cy i x.cps.toList.length) (fun lt=>?_) fun ge=>?_
  ·have e1:x.cps[i]? =some (x.cps.toList[i]):=by simp at lt;simp[lt]
   refine wpAny_pyNext_ascii_item ⟨o,g,c,dd⟩ e1 fun h' hit sb=>?_
   refine AB hit fun o' g' t'=>?_;clear hit
   exact item (.str ⟨#[x.cps.toList[i]]⟩) _ h' o' _ (BM _) (by simp at lt;simp[lt]) (by refine AP.s' ?_;exact⟨_,rfl⟩) g' t' sb
  ·exact TN hA hx hne ⟨o,g,c,dd⟩ (by simpa using ge) (done ge)
theorem ML {lo hi:Int}(h1:small lo)(h2:small hi):J_ lo hi 1=true:=by
 unfold J_ Builtin.Range.rangeFitsLong
 rw[Kd _ _]
 unfold small at h1 h2
 simp only[D1,decide_eq_true_eq,IU,beq_iff_eq]
 simp only[show(1:Int)>0 by decide,if_true,decide_eq_true_eq,D1]
 split<;>x_go
theorem PX {p:PV}{v:Ac}{K:(AH→Prop)→List PV→Prop}{post:Ac→Ad→Prop}(x:X.In h)(O:Own X h H s)(r:AP h p v)(t:IF H K p)
  (k:∀I o ok items src,K ok items→ok H→NE h ok items src→FU o 0 src→I=s.heap.objs.size→items.length≤2 ^ 63→post (.ref I) {s with heap:=s.heap.push o}):wpAny (model X.prog X.w) A (pyIter v) post E s:=by
 induction p using Mine.Internal.PV.casesOn with
 |tup vs=>
  refine Md r fun a xs g rr=>?_
  have ga:=O.keep _ _ g
  exact wpAny_pyIter_tuple (items:=xs.toArray) ⟨_,ga,rfl,_,rfl⟩ (k _ _ _ vs (.tup a) t.2 trivial ⟨xs,g,rr⟩ ⟨rfl,rfl⟩ rfl (Aa (show vs.length≤100000 from t.1) (by decide)))
 |rng lo hi=>
  replace r:=AP.g r
  refine Tr r fun a t1 t2 t3 z4 g=>?_;clear r;subst z4
  have ga:=O.keep _ _ g
  refine wpAny_pyIter_range ga (ML t.1 t.2.1) (k _ _ _ _ (.rng lo (hi-lo).toNat) t.2.2 trivial rfl ?_ rfl ?_)
  ·unfold FU
   rw[Kd _ _]
   have e:(if lo<hi then hi-lo else 0)=(((hi-lo).toNat:Nat):Int) -(0:Nat):=by split<;>x_go
   rw[e]
   simp
  ·simp only[Ag,AO]
   refine DF t fun z0 z1 uu=>?_;clear t;refine Aw z0 fun h1 h2=>?_;clear z0;refine Aw z1 fun h3 h4=>?_;clear z1
   x_go
 |str x=>
  refine Mc r fun t1=>?_
  refine wpAny_pyIter_ascii t.2.1 (k _ _ _ _ (.str x t1) t.2.2 trivial rfl ⟨rfl,rfl⟩ rfl ?_)
  have:=t.1
  simp only[Ag]
  refine(?_:x.cps.toList.length≤_)
  rw[BF]
  exact Aa (show x.cps.size≤1000 from this) (by x_go)
 |loc a=>
  cases C6 r
  replace t:=Hf t
  focus(revert t;refine fun zo=>Ap zo (fun z0=>?_) fun z0=>?_;rotate_left;clear zo;refine BT z0 fun es n e t=>?_;clear z0;rotate_right;clear zo;refine AB z0 fun vs e t=>?_;clear z0)
  ·refine BT (O.isList e) fun xs n g rr=>?_
   exact wpAny_pyIter_list (WC g) (k _ _ _ vs (.list a) t.2 e (fun uu z=>z) ⟨rfl,rfl⟩ rfl (Aa (show vs.length≤100000 from t.1) (by decide)))
  ·refine AB (O.isDict e) fun ds g rr=>?_
   have z:=rr.len
   refine OR (O.notSys e) g (k _ _ _ _ (.keys a es.length n) t.2 e ⟨O.notSys e,es,fun uu z=>z,rfl,rfl⟩ ⟨rfl,?_⟩ rfl (by rw[Ag _];exact Aa (show es.length≤100000 from t.1) (by decide)))
   rw[z]
   rfl
 |_=>exact t.elim
end
end
section
open Classical
section
variable {X:Ctx}{h:Heap}{H:AH}{s:Ad}{A:B2}{E:Ac→Ad→Prop}{d:Nat}{Q:PV→AH→Prop}{post:Ac→Ad→Prop}
def eI (X:Ctx)(s₂:Ad)(I:Addr)(ex:List Addr)(src:Src)(i:Nat)(s':Ad):Prop:=
 (∃o,s'.heap.get? I=some o∧FU o i src)∧(∀b ob,b∉I::ex→s₂.heap.get? b=some ob→s'.heap.get? b=some ob)∧s'.gens=#[]∧s'.os=X.os
theorem Own.walked {s':Ad}(O:Own X h H s){L:List Addr}(hL:∀b∈L,h.get? b=none∧H b=none)(k:∀b ob,b∉L→s.heap.get? b=some ob→s'.heap.get? b=some ob)(eg:s'.gens=#[])(eo:s'.os=X.os)(hl:4≤s'.heap.objs.size):Own X h H s':=by
 refine⟨fun b o e=>k b o (fun q=>?_) (O.keep b o e),fun a po e=>?_,eg,eo,hl,O.hi⟩
 ·rw[(hL b q).1] at e;exact CC e
 ·refine Aw (O.cell a po e) fun n zr=>?_;refine AB zr fun o g r=>?_;clear zr
  exact⟨n,o,k a o (fun q=>by rw[(hL a q).2] at e;exact CC e) g,r⟩
theorem a0 (x:X.In h)(O:Own X h H s){ok:AH→Prop}{items:List PV}{src:Src}{I:Addr}(ex:List Addr)(f:NE h ok items src)(hok:ok H)(hL:∀b∈I::ex,h.get? b=none∧H b=none)(hIx:I∉ex)(h4:4≤I)(hsz:I<s.heap.objs.size)(hA:A.handled=X.exc.map .ref):
  WalksS X.prog X.w A I ((Am s.heap.objs.size).filter fun b=>decide (b∉ex)) [I] (fun a b=>b=a) items.length (fun i v=>∃p,items[i]? =some p∧AP h p v) (eI X s I ex src) where
 sub:=fun b hb=>by simp at hb;subst hb;simp[hIx];exact hsz
 grefl:=fun uu=>rfl
 gtrans:=fun uu uu uu h1 h2=>h2.trans h1
 frame:=fun i s' h' tk st uu hk=>by
  refine M6 st fun z0 k eg eo=>?_;clear st;refine AB z0 fun o g t=>?_;clear z0
  exact⟨⟨o,hk I (by simp[hIx];exact hsz) o g,t⟩,fun b ob ne e=>hk b (by
   simp only[Aq,not_or] at ne
   simp only[Gf,BA,decide_eq_true_eq]
   exact⟨Ax e,ne.2⟩) ob (k b ob ne e),eg,eo⟩
 item:=fun i s' Q E hi st hQ=>by
  refine M6 st fun z0 k eg eo=>?_;clear st;refine AB z0 fun o g t=>?_;clear z0
  have O':Own X h H s':=O.walked hL k eg eo (Aa h4 (AU (Ax g)))
  refine Mf x O' f hok g t (hL I (Ab ..)).1 (hL I (Ab ..)).2 hA (AU hi) (fun p v h' o' tk le e r g' t' sb=>?_) fun ge=>absurd hi (Dv.mpr ge)
  exact hQ v _ ⟨p,e,r⟩ ⟨⟨o',g',t'⟩,fun b ob ne e=>(sb.2 b (fun q=>ne (by rw[q];exact Ab ..))).trans (k b ob ne e),eg,eo⟩ ⟨fun b ob nb e=>(sb.2 b (by simpa using nb)).trans e,rfl,rfl,rfl,le⟩
 done:=fun s' Q E st hQ=>by
  refine M6 st fun z0 k eg eo=>?_;clear st;refine AB z0 fun o g t=>?_;clear z0
  have O':Own X h H s':=O.walked hL k eg eo (Aa h4 (AU (Ax g)))
  refine Mf x O' f hok g t (hL I (Ab ..)).1 (hL I (Ab ..)).2 hA (Ak _) (fun p v h' o' tk uu e=>?_) fun uu h' eb=>?_
  ·simp at e
  ·exact hQ _ ⟨fun b ob nb e=>eb b ob (by simpa using nb) e,rfl,rfl,rfl,Ak _⟩
 self:=fun i s' Q E st hQ=>by
  refine M6 st fun z0 k eg eo=>?_;clear st;refine AB z0 fun o g t=>?_;clear z0
  induction src using Mine.Internal.Src.casesOn with
  |list a=>exact I_ ⟨o,g,t⟩ hQ
  |tup a=>exact It ⟨o,g,t⟩ hQ
  |rng lo n=>unfold FU at t;subst t;exact Iu g hQ
  |keys dd n ep=>exact Jq (i:=i) ⟨o,g,t⟩ hQ
  |str y t'=>exact GJ ⟨o,g,t⟩ hQ
theorem V2 (x:X.In h)(O:Own X h H s)(ex:List Addr)(hex:∀b∈ex,h.get? b=none∧H b=none∧b<s.heap.objs.size){p:PV}{v:Ac}{K:(AH→Prop)→List PV→Prop}(r:AP h p v)(t:IF H K p)(hA:A.handled=X.exc.map .ref)
  {post:Ac→Ad→Prop}(k:∀I s₂ (items:List PV) St ok,K ok items→(∀A':B2,A'.handled=X.exc.map .ref→WalksS X.prog X.w A' I ((Am s₂.heap.objs.size).filter fun b=>decide (b∉ex)) [I] (fun a b=>b=a) items.length (fun i v=>∃p,items[i]? =some p∧AP h p v) St)→St 0 s₂→
   (∀b o,s.heap.get? b=some o→s₂.heap.get? b=some o)→h.get? I=none→H I=none→s.heap.objs.size≤I→I<s₂.heap.objs.size→s₂.toks=s.toks→
   (∀s',(∀b ob,b∉I::ex→s₂.heap.get? b=some ob→s'.heap.get? b=some ob)→s'.gens=s₂.gens→s'.os=s₂.os→Own X h H s')→post (.ref I) s₂):wpAny (model X.prog X.w) A (pyIter v) post E s:=by
 refine PX x O r t fun I o ok items src hK hok f tn hI uu=>?_
 subst hI
 have O2:=O.push o
 have hI:h.get? s.heap.objs.size=none:=by
  cases z:h.get? s.heap.objs.size with
  |none=>rfl
  |some y=>exact absurd (Ax (O.keep _ _ z)) (BO _)
 have hL:∀b∈s.heap.objs.size::ex,h.get? b=none∧H b=none:=fun b hb=>(Aq.mp hb).elim (fun e=>by rw[e];exact⟨hI,O.fresh⟩) fun m=>⟨(hex b m).1,(hex b m).2.1⟩
 have hlt:s.heap.objs.size<(s.heap.push o).objs.size:=by rw[B3 _ _];exact Bx _
 refine k _ _ items _ ok hK (fun A' hA'=>a0 x O2 ex f hok hL (fun m=>BO _ (hex _ m).2.2) O.lo hlt hA') ⟨⟨o,Ar _ tn.plain.2,tn⟩,fun b ob uu e=>e,O2.gens,O2.os⟩ (fun b o' e=>Aj _ e) hI O.fresh (Ak _) hlt rfl fun s' m eg eo=>?_
 refine O2.walked hL m (eg.trans O2.gens) (eo.trans O2.os) ?_
 rcases x.lo with⟨a,oa,la,ga⟩
 exact Aa la (AU (Ax (m a oa (fun q=>by rw[(hL a q).1] at ga;exact CC ga) (O2.keep _ _ ga))))
theorem Xy (x:X.In h)(O:Own X h H s){p:PV}{v:Ac}{K:(AH→Prop)→List PV→Prop}(r:AP h p v)(t:IF H K p)(hA:A.handled=X.exc.map .ref)
  {post:Ac→Ad→Prop}(k:∀I s₂ (items:List PV) fp St ok,K ok items→WalksS X.prog X.w A I fp [I] (fun a b=>b=a) items.length (fun i v=>∃p,items[i]? =some p∧AP h p v) St→(∀b∈fp,b<s₂.heap.objs.size)→St 0 s₂→
   (∀s',Moved [I] (fun a b=>b=a) s₂ s'→Own X h H s')→post (.ref I) s₂):wpAny (model X.prog X.w) A (pyIter v) post E s:=
 V2 x O [] (fun b hb=>by simp at hb) r t hA fun I s₂ items St ok hK W st uu uu uu uu uu uu own=>k I s₂ items _ St ok hK (W A hA) (fun b hb=>by simpa using hb) st fun s' m=>own s' (fun b ob nb e=>m.heap b ob (by simpa using nb) e) m.gens m.os
end
end
section
open Classical
section
variable {X:Ctx}{h:Heap}{H:AH}{s:Ad}{A:B2}{E:Ac→Ad→Prop}{d:Nat}{Q:PV→AH→Prop}{post:Ac→Ad→Prop}
theorem a8 (O:Own X h H s){p:PV}{v:Ac}(r:AP h p v)(P:EG X h Q post)(t:ZF H (kP Q H) p):wpAny (model X.prog X.w) A (call (.builtin "len") [v]) post E s:=by
 induction p using Mine.Internal.PV.casesOn with
 |tup vs=>
  refine Md r fun a xs g rr=>?_
  have z:=rr.len
  refine PyProof.Rows.len_tuple (t:=a) (items:=xs.toArray) ⟨_,O.keep _ _ g,rfl,_,rfl⟩ (by simp;have:=t.1;exact Y2 ((Al [_,_] 0x8000000000000000084050186a0581020112) z this)) (P.here O.tok ?_ t.2)
  refine AP.i' ?_
  exact⟨s.toks+1,by simp[z]⟩
 |loc l=>
  cases C6 r
  replace t:=SJ t
  obtain ⟨vs,e|e,t⟩:=t
  ·refine BT (O.isList e) fun xs n g rr=>?_
   have z:=rr.len
   refine call_len_list (WC g) (by simp;have:=t.1;exact Y2 ((Al [_,_] 0x8000000000000000084050186a0581020112) z this)) (P.here O.tok ?_ t.2)
   refine AP.i' ?_
   exact⟨s.toks+1,by simp[z]⟩
  ·refine AI (O.at e) fun o zr=>?_;revert zr;refine fun zq=>Aw zq fun g zr=>?_;clear zq;revert zr;refine fun zq=>AI zq fun es zr=>?_;clear zq;revert zr;refine fun zq=>AI zq fun n zr=>?_;clear zq;revert zr;refine fun zq=>AI zq fun tb zr=>?_;clear zq;revert zr;refine fun zq=>Aw zq fun z0 zr=>?_;clear zq;subst z0;revert zr;refine fun zq=>Aw zq fun f zr=>?_;clear zq;revert zr;refine fun zq=>Aw zq fun uu zr=>?_;clear zq;revert zr;refine fun zq=>Aw zq fun uu zr=>?_;clear zq;refine AB zr fun ws pm rr=>?_;clear zr
   have z:=rr.len
   have z2:=pm.length_eq
   have z3:es.size=vs.length:=by rw[←z2,z];simp
   refine call_len_set g ⟨rfl,rfl,rfl⟩ rfl f (by have:=t.1;exact Y2 ((Al [_,_] 0x8000000000000000084050186a0581021012) z3 this)) (P.here O.tok ?_ t.2)
   refine AP.i' ?_
   exact⟨s.toks+1,by rw[z3];rfl⟩
 |_=>exact t.elim
theorem V3 (O:Own X h H s){n:Int}{v:Ac}(r:AP h (.int n) v)(P:EG X h Q post)(t:Q (.rng 0 n) H):wpAny (model X.prog X.w) A (call (.type "range") [v]) post E s:=by
 refine EJ r fun t1=>?_
 have O':=(O.push {cls:= .type "range",data:= .fields #[.int 0 s.toks, .int n t1, .int 1 (s.toks+1)]}).tok (s':={s with heap:=s.heap.push {cls:= .type "range",data:= .fields #[.int 0 s.toks, .int n t1, .int 1 (s.toks+1)]},toks:=s.toks+1+1})
 refine call_range_1 (P _ _ _ _ _ O'.keepsFrz O'.freeze ?_ t)
 refine AP.g' ?_
 exact Zs _ _ _ _ rfl (DS H O.fresh (Ar _ rfl))
theorem V4 (O:Own X h H s){a n:Int}{u v:Ac}(ra:AP h (.int a) u)(r:AP h (.int n) v)(P:EG X h Q post)(t:Q (.rng a n) H):wpAny (model X.prog X.w) A (call (.type "range") [u,v]) post E s:=by
 refine EJ r fun t1=>?_
 refine EJ ra fun t2=>?_
 have O':=(O.push {cls:= .type "range",data:= .fields #[.int a t2, .int n t1, .int 1 s.toks]}).tok (s':={s with heap:=s.heap.push {cls:= .type "range",data:= .fields #[.int a t2, .int n t1, .int 1 s.toks]},toks:=s.toks+1})
 refine call_range_2 (P _ _ _ _ _ O'.keepsFrz O'.freeze ?_ t)
 refine AP.g' ?_
 exact Zs _ _ _ _ rfl (DS H O.fresh (Ar _ rfl))
theorem Kr:∀{vs:List PV} {is:List Int},Dn vs=some is→vs=is.map .int
 |[],is,e=>by rw[←Ai e];rfl
 |p::ps,is,e=>by
  induction p using Mine.Internal.PV.casesOn with
  |int i=>
   replace e:(Dn ps).map (i::·)=some is:=e
   refine AB (Iq.mp e) fun js q z=>?_
   rw[←z,Kr q]
   rfl
  |_=>exact CC e
theorem QD (is:List Int):∀n,n≤is.length→preSum (fun j=>is.getD j 0) n=(is.take n).sum:=by
 intro n
 induction n with
 |zero=>intro _;simp[preSum]
 |succ n ih=>
  intro hn
  have e:is[n]? =some is[n]:=Ah (by assumption)
  simp only[preSum,ih (by exact AU ‹_›)]
  rw[Fk,e]
  simp only[KQ,IQ,BX,Qr,Gu]
  congr 1
  simp[Cd,e]
theorem a9 (x:X.In h)(O:Own X h H s){l:Addr}{vs:List PV}{is:List Int}(e:H l=some (.list vs))(ei:Dn vs=some is)(hz:is.length≤100000)(hA:A.handled=X.exc.map .ref)(P:EG X h Q post)(t:Q (.int is.sum) H):
  wpAny (model X.prog X.w) A (call (.builtin "sum") [.ref l]) post E s:=by
 have ev:=Kr ei
 refine call_sum_walkAnyS (Xy (A:=A.in1) x O (p:= .loc l) (K:=fun ok items=>items=vs) (by refine AP.l' ?_;rfl) ?_ hA fun I s₂ items fp St ok hK W hfp st own=>?_)
 ·refine(?_:Ni (H _) _ _)
  rw[e]
  exact⟨by rw[ev];simpa using hz,rfl⟩
 ·subst hK
  refine⟨I,_,_,_,_,_,St,fun j=>is.getD j 0,rfl,W,st,hfp,?_,fun s' t' m=>?_⟩
  ·intro i v z22;refine AB z22 fun p e1 r=>?_;clear z22
   rw[ev,Bc] at e1
   cases e2:is[i]? with
   |none=>rw[e2] at e1;simp at e1
   |some j=>
    rw[e2] at e1
    simp only[By,Bs] at e1
    subst e1
    refine EJ r fun t=>?_
    exact⟨t,by simp[Cd,e2]⟩
  ·have e3:items.length=is.length:=by rw[ev];simp
   refine P.here (own s' m) ?_ t
   refine AP.i' ?_
   exact⟨t',by rw[e3,QD is _ (Ak _),FP];rfl⟩
theorem QF (is:List Int)(i:Int)(r:List Int)(hi:is=i::r):∀k,k<is.length→(is.getD (argBest (fun a b=>decide (is.getD b 0<is.getD a 0)) k) 0=(r.take k).foldl max i)∧argBest (fun a b=>decide (is.getD b 0<is.getD a 0)) k<is.length:=by
 intro k
 induction k with
 |zero=>intro _;subst hi;simp[argBest]
 |succ k ih=>
  intro hk
  refine Aw (ih (by exact AU ‹_›)) fun h1 h2=>?_
  obtain ⟨y,e⟩:∃y,r[k]? =some y:=⟨_,Ah (by subst hi;simpa using hk)⟩
  have e':is.getD (k+1) 0=y:=by subst hi;simp[Cd,e]
  have et:(r.take (k+1)).foldl max i=max ((r.take k).foldl max i) y:=by
   rw[Fk,e];simp[List.foldl_append]
  simp only[argBest]
  by_cases c:is.getD (argBest (fun a b=>decide (is.getD b 0<is.getD a 0)) k) 0<is.getD (k+1) 0
  ·rw[if_pos (by simpa using c)]
   refine⟨?_,hk⟩
   rw[et,e']
   rw[h1,e'] at c
   x_go
  ·rw[if_neg (by simpa using c)]
   refine⟨?_,h2⟩
   rw[et,h1]
   rw[h1,e'] at c
   x_go
theorem aa (x:X.In h)(O:Own X h H s){l:Addr}{vs:List PV}{i:Int}{is:List Int}(e:H l=some (.list vs))(ei:Dn vs=some (i::is))(hz:is.length≤90000)(hA:A.handled=X.exc.map .ref)(P:EG X h Q post)(t:Q (.int (is.foldl max i)) H):
  wpAny (model X.prog X.w) A (call (.builtin "max") [.ref l]) post E s:=by
 have ev:=Kr ei
 refine call_max_walkS (Xy (A:=A.in1) x O (p:= .loc l) (K:=fun ok items=>items=vs) (by refine AP.l' ?_;rfl) ?_ hA fun I s₂ items fp St ok hK W hfp st own=>?_)
 ·refine(?_:Ni (H _) _ _)
  rw[e]
  exact⟨by rw[ev];simp;exact Aa ‹_› (by decide),rfl⟩
 ·subst hK
  have at_:∀j v,(∃p,items[j]? =some p∧AP h p v)→∃t,v= .int ((i::is).getD j 0) t:=by
   intro j v z22;refine AB z22 fun p e1 r=>?_;clear z22
   rw[ev,Bc] at e1
   cases e2:(i::is)[j]? with
   |none=>rw[e2] at e1;simp at e1
   |some z=>
    rw[e2] at e1
    simp only[By,Bs] at e1
    subst e1
    refine EJ r fun t=>?_
    exact⟨t,by simp[Cd,e2]⟩
  refine⟨I,_,_,_,_,_,St,fun a b=>decide ((i::is).getD b 0<(i::is).getD a 0),rfl,W,st,hfp,by rw[ev];simp,?_,fun v s' hv m=>?_⟩
  ·intro a b va vb s' Q' E' ha hb hq
   refine AI (at_ a va ha) fun t1 z1=>?_;subst z1
   refine AI (at_ b vb hb) fun t2 z1=>?_;subst z1
   exact JB hq
  ·refine AI (at_ _ _ hv) fun tt z1=>?_;subst z1
   refine P.here (own s' m) ?_ t
   refine AP.i' ?_
   refine⟨tt,?_⟩
   have e3:items.length-1=is.length:=by rw[ev];simp
   rw[e3,(QF (i::is) i is rfl is.length (by simp)).1,FP];rfl
theorem WG (x:X.In h)(O:Own X h H s){l:Addr}{vs:List PV}(e:H l=some (.list vs))(hz:vs.length≤100000)(P:EG X h Q post)(t:Q (.tup vs) H):wpAny (model X.prog X.w) A (call (.type "tuple") [.ref l]) post E s:=by
 refine BT (O.isList e) fun xs n g r=>?_
 have z:=r.len
 refine call_tuple_list (WC g) (fun h' k=>?_) (by rw[AE,AV];exact(Al [_,_] 0x100000078000112186a058102) hz z)
 have O1:Own X h H {s with heap:=h'}:=⟨fun b o e=>k b o (O.keep b o e),fun a po e=>let⟨n,o,g,r⟩:=O.cell a po e;⟨n,o,k a o g,r⟩,O.gens,O.os,?_,O.hi⟩
 ·exact P.tup O1 r t
 ·rcases x.lo with⟨a,o,la,ga⟩
  exact Aa la (AU (Ax (k a o (O.keep _ _ ga))))
theorem PY (O:Own X h H s){vs:List PV}{v:Ac}(r:AP h (.tup vs) v)(P:EG X h Q post)(t:Q (.tup vs) H):wpAny (model X.prog X.w) A (call (.type "tuple") [v]) post E s:=by
 refine Cv (FK r) fun a xs z2 g rr=>?_;subst z2
 exact call_tuple_same (items:=xs.toArray) ⟨_,O.keep _ _ g,rfl,_,rfl⟩ (P.here O r t)
end
end
section
def DE (p:Array Nat)(N:Nat):Prop:=p.Perm (Am N).toArray
theorem DE.size {p:Array Nat}{N:Nat}(h:DE p N):p.size=N:=by have:=Array.Perm.size_eq h;simpa using this
theorem DE.lt {p:Array Nat}{N i:Nat}(h:DE p N)(hi:i<N):p.getD i 0<N:=by
 have hs:=h.size
 have e:p.getD i 0=p[i]:=by simp[Ct,hs,hi]
 have hm:p[i]∈p.toList:=by simp
 have:=(GI.mp h).mem_iff.mp hm
 rw[e]
 simpa using this
theorem DE.rev {p:Array Nat}{N:Nat}(h:DE p N)(i j:Nat):DE (kas_rev p i j) N:=MJ (mirror_perm _ _ _ _) h
theorem DE.bub {p:Array Nat}{N:Nat}(h:DE p N)(i j:Nat):DE (bubble p i j) N:=MJ (bubble_perm _ _ _) h
section
variable {rk:Nat→Nat}{cmp:Nat→Nat→(Bool→Ad→Prop)→Ad→Prop}{s:Ad}{N:Nat}
def Gk (rk:Nat→Nat)(p:Array Nat)(i:Nat):Nat:=rk (p.getD i 0)
theorem Jc {p q:Array Nat}{i j:Nat}(h:p[i]? =q[j]?):Gk rk p i=Gk rk q j:=by unfold Gk;simp[AT,h]
theorem NF {p:Array Nat}{i j:Nat}(hj:j≤p.size)(k:Nat):Gk rk (kas_rev p i j) k=if i≤k∧k<j then Gk rk p (i+j-1-k) else Gk rk p k:=by
 have e:=getElem?_mirror_all (xs:=p) (i:=i) hj k
 by_cases c:i≤k∧k<j
 ·rw[if_pos c] at e ⊢;exact Jc e
 ·rw[if_neg c] at e ⊢;exact Jc e
theorem V5 {p:Array Nat}{src d:Nat}(hs:src<p.size)(hd:d≤src)(k:Nat):
  Gk rk (bubble p src d) k=if k=src-d then Gk rk p src else if src-d<k∧k≤src then Gk rk p (k-1) else Gk rk p k:=by
 have e:=getElem?_bubble hs d hd k
 by_cases h1:k=src-d
 ·rw[if_pos h1] at e ⊢;exact Jc e
 ·rw[if_neg h1] at e ⊢
  by_cases h2:src-d<k∧k≤src
  ·rw[if_pos h2] at e ⊢;exact Jc e
  ·rw[if_neg h2] at e ⊢;exact Jc e
def N3 (rk:Nat→Nat)(p:Array Nat)(k:Nat):Prop:=∀i j,i≤j→j<k→Gk rk p i≤Gk rk p j
def V6 (rk:Nat→Nat)(p:Array Nat)(k:Nat):Prop:=∀i j,i≤j→j<k→Gk rk p j≤Gk rk p i
abbrev QG (rk:Nat→Nat)(cmp:Nat→Nat→(Bool→Ad→Prop)→Ad→Prop)(s:Ad)(N:Nat):Prop:=∀i j C,i<N→j<N→C (decide (rk i<rk j)) s→cmp i j C s
theorem V7 (hc:QG rk cmp s N){Q:Nat→Ad→Prop}{p:Array Nat}(hp:DE p N):∀(f n:Nat),1≤n→n+f≤N→N3 rk p n→
  (∀m,n≤m→m≤n+f→N3 rk p m→(m=n+f∨Gk rk p m<Gk rk p (m-1))→Q m s)→(kas_asc p f n).kasWp cmp Q s
 |0,n,_,_,hs,h=>h n (Ak _) (Ak _) hs (.inl rfl)
 |f+1,n,h1,hn,hs,h=>by
  refine hc _ _ _ (hp.lt (by exact(Al [_,_,_] 0x1405014250502) hn)) (hp.lt (by exact(Al [_,_,_] 0x144065014250502) hn)) ?_
  by_cases c:Gk rk p n<Gk rk p (n-1)
  ·rewrite[show decide (rk (p.getD n 0)<rk (p.getD (n-1) 0))=true from decide_eq_true c]
   exact h n (Ak _) (by exact(Al [_,_] 0x4150500)) hs (.inr c)
  ·rewrite[show decide (rk (p.getD n 0)<rk (p.getD (n-1) 0))=false from decide_eq_false c]
   refine V7 hc hp f (n+1) (by exact(Al [_] 0x40540)) (by exact(Al [_,_,_] 0x214055024150502) hn) (fun i j hij hj=>?_) fun m h2 h3 h4 h5=>h m (by exact AU ‹_›) (by exact(Al [_,_,_] 0x425150024155002) h3) h4 (h5.imp (fun e=>by exact(Al [_,_,_] 0x425150124155012) e) id)
   by_cases hjx:j<n
   ·exact hs i j hij hjx
   ·have hj':j=n:=by exact(Al [_,_] 0x1015140502241540502) hj hjx
    subst hj'
    by_cases hi':i=j
    ·subst hi';exact Ak _
    ·have:=hs i (j-1) (by exact(Al [_,_] 0x416005101221002) hij hi') (by exact(Al [_] 0x4406500402) h1)
     exact(Al [_,_,_] 0x100200252415022) c this
theorem SU (hc:QG rk cmp s N){Q:Nat×Array Nat→Ad→Prop}{p:Array Nat}(hp:DE p N){n:Nat}(h1:1≤n)(hn:n≤N)(hs:V6 rk p n)
  (h:∀m p',DE p' N→1≤m→m≤N→N3 rk p' m→Q (m,p') s):(kas_tail3 n N p).kasWp cmp Q s:=by
 unfold kas_tail3
 rw[ES _ _]
 refine V7 hc (hp.rev 0 n) _ _ h1 (by exact(Al [_,_] 0x10160501002) hn) (fun i j hij hj=>?_) fun m h2 h3 h4 uu=>h m _ (hp.rev 0 n) (by exact Bt ‹_› ‹_›) (by exact(Al [_,_,_] 0x100216250021202) hn h3) h4
 rw[NF (by rw[hp.size];assumption) _,NF (by rw[hp.size];assumption) _];rewrite[if_pos (by exact(Al [_,_,_] 0x1405007031425022002) hij hj),if_pos (by exact(Al [_,_] 0x140500703140502) hj)]
 exact hs _ _ (by exact(Al [_,_,_] 0x2407566140756601202) hij) (by exact(Al [_,_,_] 0x4140756650042502) hj)
theorem PZ (hc:QG rk cmp s N){Q:Array Nat×Nat×Nat→Ad→Prop}:∀(f:Nat) {p:Array Nat} (hp:DE p N) (n q:Nat),1≤n→n+f≤N→V6 rk p n→q+1≤n→(∀i,n-(q+1)≤i→i<n→Gk rk p i=Gk rk p (n-1))→
  (∀m q' p',DE p' N→n≤m→m≤n+f→V6 rk p' m→q'+1≤m→(∀i,m-(q'+1)≤i→i<m→Gk rk p' i=Gk rk p' (m-1))→Q (p',m,q') s)→(kas_desc f p n q).kasWp cmp Q s
 |0,p,hp,n,q,_,_,hs,hq,he,h=>h n q p hp (Ak _) (Ak _) hs hq he
 |f+1,p,hp,n,q,h1,hn,hs,hq,he,h=>by
  refine hc _ _ _ (hp.lt (by exact(Al [_,_,_] 0x1405014250502) hn)) (hp.lt (by exact(Al [_,_,_] 0x144065014250502) hn)) ?_
  by_cases c:Gk rk p n<Gk rk p (n-1)
  ·rewrite[show decide (rk (p.getD n 0)<rk (p.getD (n-1) 0))=true from decide_eq_true c]
   have step1:∀p':Array Nat,(∀k,Gk rk p' k=Gk rk p k)→V6 rk p' (n+1):=by
    intro p' hk i j hij hj
    rw[hk _,hk _]
    by_cases hjx:j<n
    ·exact hs i j hij hjx
    ·have hj':j=n:=by exact(Al [_,_] 0x1015140502241540502) hj hjx
     subst hj'
     by_cases hi':i=j
     ·subst hi';exact Ak _
     ·have:=hs i (j-1) (by exact(Al [_,_] 0x416005101221002) hij hi') (by exact(Al [_,_] 0x440650041502) hq)
      exact(Al [_,_,_] 0x1001202240502) c this
   by_cases hneq:q>0
   ·rw[if_pos hneq]
    refine PZ hc f (hp.rev _ _) (n+1) 0 (by exact(Al [_] 0x40540)) (by exact(Al [_,_,_] 0x214055024150502) hn) (step1 _ fun k=>?_) (by exact(Al [_] 0x4054750)) (fun i h2 h3=>by congr 1;exact(Al [_,_] 0x4415601415405020475415602) h2 h3) fun m q' p' a b c' d e g=>h m q' p' a (by exact AU ‹_›) (by exact(Al [_,_,_] 0x425150024155002) c') d e g
    rewrite[NF (by rw[hp.size];exact(Al [_,_,_] 0x10014250502) hn)]
    split
    ·rewrite[he _ (by exact(Al [_,_,_] 0x2404150656641506004250241506032) ‹_›) (by exact(Al [_,_,_] 0x4240415065665004250241506032) ‹_›),he k (by exact(Al [_,_,_] 0x241506004250241506032) ‹_›) (by exact(Al [_,_,_] 0x1405014050042516032) ‹_›)];rfl
    ·rfl
   ·rw[if_neg hneq]
    exact PZ hc f hp (n+1) 0 (by exact(Al [_] 0x40540)) (by exact(Al [_,_,_] 0x214055024150502) hn) (step1 _ fun k=>rfl) (by exact(Al [_] 0x4054750)) (fun i h2 h3=>by congr 1;exact(Al [_,_] 0x4415601415405020475415602) h2 h3) fun m q' p' a b c' d e g=>h m q' p' a (by exact AU ‹_›) (by exact(Al [_,_,_] 0x425150024155002) c') d e g
  ·rewrite[show decide (rk (p.getD n 0)<rk (p.getD (n-1) 0))=false from decide_eq_false c]
   refine hc _ _ _ (hp.lt (by exact(Al [_,_,_] 0x144065014250502) hn)) (hp.lt (by exact(Al [_,_,_] 0x1405014250502) hn)) ?_
   by_cases c':Gk rk p (n-1)<Gk rk p n
   ·rewrite[show decide (rk (p.getD (n-1) 0)<rk (p.getD n 0))=true from decide_eq_true c']
    exact h n q p hp (Ak _) (by exact(Al [_,_] 0x4150500)) hs hq he
   ·rewrite[show decide (rk (p.getD (n-1) 0)<rk (p.getD n 0))=false from decide_eq_false c']
    have heq:Gk rk p n=Gk rk p (n-1):=by exact(Al [_,_] 0x1015041502251405022) c c'
    refine PZ hc f hp (n+1) (q+1) (by exact(Al [_] 0x40540)) (by exact(Al [_,_,_] 0x214055024150502) hn) (fun i j hij hj=>?_) (by exact(Al [_,_] 0x415440550140502) hq) (fun i h2 h3=>?_) fun m q' p' a b c' d e g=>h m q' p' a (by exact AU ‹_›) (by exact(Al [_,_,_] 0x425150024155002) c') d e g
    ·by_cases hjx:j<n
     ·exact hs i j hij hjx
     ·have hj':j=n:=by exact(Al [_,_] 0x1015140502241540502) hj hjx
      subst hj'
      by_cases hi':i=j
      ·subst hi';exact Ak _
      ·rw[heq];exact hs i (j-1) (by exact(Al [_,_] 0x416005101221002) hij hi') (by exact(Al [_,_] 0x440650041502) hq)
    ·rewrite[show n+1-1=n by exact(Al [_] 0x440561)]
     by_cases hix:i=n
     ·subst hix;rfl
     ·rw[heq];exact he i (by exact(Al [_,_,_] 0x2415060244155405602) h2) (by exact(Al [_,_] 0x1405051012241540502) h3 hix)
theorem NG (hc:QG rk cmp s N){Q:Nat×Array Nat→Ad→Prop}{p:Array Nat}(hp:DE p N){n:Nat}(hn:n+1≤N)(hs:V6 rk p (n+1))
  (h:∀m p',DE p' N→1≤m→m≤N→N3 rk p' m→Q (m,p') s):(kas_descPart n N p).kasWp cmp Q s:=by
 unfold kas_descPart
 rw[ES _ _]
 refine PZ hc _ hp (n+1) 0 (by exact(Al [_] 0x40540)) (by exact(Al [_,_] 0x14051640550140502) hn) hs (by exact(Al [_] 0x4054750)) (fun i h2 h3=>by congr 1;exact(Al [_,_] 0x4415601415405020475415602) h2 h3) fun m q p' hp' h2 h3 hs' hq he=>?_
 by_cases hneq:q>0
 ·rw[if_pos hneq]
  refine SU hc (hp'.rev _ _) (by exact(Al [_,_] 0x40041502) hq) (by exact(Al [_,_,_] 0x100425164255002142502) hn h3) (fun i j hij hj=>?_) h
  have hsz:m≤p'.size:=by rw[hp'.size];exact(Al [_,_,_] 0x100425164255002142502) hn h3
  have ee:∀k,Gk rk (kas_rev p' (m-(q+1)) m) k=Gk rk p' k:=fun k=>by
   rw[NF hsz _]
   split
   ·rewrite[he _ (by exact(Al [_,_,_] 0x2404150656641506004250241506032) ‹_›) (by exact(Al [_,_,_] 0x4240415065665004250241506032) ‹_›),he k (by exact(Al [_,_,_] 0x241506004250241506032) ‹_›) (by exact(Al [_,_,_] 0x1405014050042516032) ‹_›)];rfl
   ·rfl
  rw[ee _,ee _]
  exact hs' i j hij hj
 ·rw[if_neg hneq]
  exact SU hc hp' (by exact(Al [_,_] 0x40041502) hq) (by exact(Al [_,_,_] 0x100425164255002142502) hn h3) hs' h
theorem WH (hc:QG rk cmp s N){Q:Nat×Array Nat→Ad→Prop}{p:Array Nat}(hp:DE p N)(h1:1≤N)
  (h:∀m p',DE p' N→1≤m→m≤N→N3 rk p' m→Q (m,p') s):(kas_count N p).kasWp cmp Q s:=by
 unfold kas_count
 rw[ES _ _]
 refine V7 hc hp _ 1 (Ak _) (by exact(Al [_] 0x4064500402) h1) (fun i j hij hj=>by have:i=j:=(by exact(Al [_,_] 0x1014415021002) hij hj);subst this;exact Ak _) fun n h2 h3 hsn hor=>?_
 by_cases hnn:n=N
 ·rw[if_pos (by simpa using hnn)]
  exact h n p hp h2 (by exact(Al [_,_] 0x1001012) hnn) hsn
 ·rw[if_neg (by simpa using hnn)]
  have hlt:Gk rk p n<Gk rk p (n-1):=hor.resolve_left (by exact(Al [_,_] 0x5416450125101221402) h1 hnn)
  have hsz:n≤p.size:=by rw[hp.size];exact(Al [_,_] 0x100416450021402) h1 h3
  by_cases hgt:n>1
  ·rw[if_pos hgt]
   refine hc _ _ _ (hp.lt (by assumption)) (hp.lt (by exact(Al [_,_] 0x144065004450241645002) h3 hgt)) ?_
   by_cases c:Gk rk p 0<Gk rk p (n-1)
   ·rewrite[show decide (rk (p.getD 0 0)<rk (p.getD (n-1) 0))=true from decide_eq_true c]
    exact h n p hp h2 (by exact(Al [_,_] 0x10004450241645002) h3 hgt) hsn
   ·rewrite[show decide (rk (p.getD 0 0)<rk (p.getD (n-1) 0))=false from decide_eq_false c]
    have hall:∀k,0≤k→k<n→Gk rk p k=Gk rk p (n-1):=by
     intro k _ hk
     have a1:=hsn 0 k (by assumption) hk
     have a2:=hsn k (n-1) (by exact(Al [_,_] 0x41600140502) hk) (by exact(Al [_,_] 0x440650041502) hk)
     exact(Al [_,_,_] 0x1011002020251425022) c a1 a2
    have ee:∀k,Gk rk (kas_rev p 0 n) k=Gk rk p k:=fun k=>by
     rw[NF hsz _]
     split
     ·rewrite[hall _ (by exact(Al [_,_] 0x140756670)) (by exact(Al [_,_] 0x41407566500415017032) ‹_›),hall k (by exact(Al [_] 0x70)) (by exact(Al [_,_] 0x140501405007032) ‹_›)];rfl
     ·rfl
    refine NG hc (hp.rev _ _) (by exact(Al [_,_] 0x1405004450251012241645002) h3 hnn hgt) (fun i j hij hj=>?_) h
    rw[ee _,ee _]
    by_cases hjn:j<n
    ·rewrite[hall i (by exact(Al [_] 0x70)) (by exact AJ ‹_› ‹_›),hall j (by exact(Al [_] 0x70)) hjn]
     exact Ak _
    ·have hj':j=n:=by exact(Al [_,_] 0x1015140502241540502) hj hjn
     subst hj'
     by_cases hi':i=j
     ·subst hi';exact Ak _
     ·rewrite[hall i (by exact(Al [_] 0x70)) (by exact(Al [_,_] 0x140505101221002) hij hi')];exact AU ‹_›
  ·rw[if_neg hgt]
   have hn1':n=1:=by exact(Al [_] 0x401504450220402) h2 hgt
   subst hn1'
   refine NG hc hp (by exact(Al [_] 0x44505041220402) h1 hnn) (fun i j hij hj=>?_) h
   by_cases hi':i=j
   ·subst hi';exact Ak _
   ·have hi0:i=0:=by exact(Al [_,_] 0x701510122445415021002) hij hj hi'
    have hj1:j=1:=by exact(Al [_,_] 0x401711250112244540502) hj hi' hi0
    subst hi0
    subst hj1
    exact AU hlt
theorem P_ (hc:QG rk cmp s N){Q:Nat→Ad→Prop}{p:Array Nat}(hp:DE p N){k:Nat}(hk:k<N)(hs:N3 rk p k):∀(f l r:Nat),l≤r→r≤k→r-l≤f→
  (∀i,i<l→Gk rk p i≤Gk rk p k)→(∀i,r≤i→i<k→Gk rk p k<Gk rk p i)→
  (∀l,l≤k→(∀i,i<l→Gk rk p i≤Gk rk p k)→(∀i,l≤i→i<k→Gk rk p k<Gk rk p i)→Q l s)→(kas_place p k f l r).kasWp cmp Q s
 |0,l,r,hlr,hrk,hm,hlo,hhi,h=>h l (by exact Aa ‹_› ‹_›) hlo fun i h1 h2=>hhi i (by exact(Al [_,_,_] 0x1001202720602) hm h1) h2
 |f+1,l,r,hlr,hrk,hm,hlo,hhi,h=>by
  unfold kas_place
  by_cases hge:l≥r
  ·rw[if_pos hge]
   exact h l (by exact Aa ‹_› ‹_›) hlo fun i h1 h2=>hhi i (by exact Aa ‹_› ‹_›) h2
  ·rw[if_neg hge]
   refine hc _ _ _ (hp.lt (by assumption)) (hp.lt (by exact(Al [_,_,_,_,_] 0x2441b505010223102243502441b5219410550210541b21902) (Br _ 2) (B1 (b:=2) _ (by decide)) hk hrk hge)) ?_
   by_cases c:Gk rk p k<Gk rk p ((l+r) / 2)
   ·rewrite[show decide (rk (p.getD k 0)<rk (p.getD ((l+r) / 2) 0))=true from decide_eq_true c]
    refine P_ hc hp hk hs f l ((l+r) / 2) (by exact(Al [_,_,_] 0x2005010224252194105502105221902) (Br _ 2) (B1 (b:=2) _ (by decide)) hge) (by exact(Al [_,_,_,_] 0x23050102221024352194105502105321902) (Br _ 2) (B1 (b:=2) _ (by decide)) hrk hge) (by exact(Al [_,_,_,_] 0x20360425016024352194105502105321902) (Br _ 2) (B1 (b:=2) _ (by decide)) hm) hlo (fun i h1 h2=>?_) h
    have:=hs _ _ h1 h2
    exact Bt ‹_› ‹_›
   ·rewrite[show decide (rk (p.getD k 0)<rk (p.getD ((l+r) / 2) 0))=false from decide_eq_false c]
    refine P_ hc hp hk hs f ((l+r) / 2+1) r (by exact(Al [_,_,_] 0x142505010224252194105502105221902) (Br _ 2) (B1 (b:=2) _ (by decide)) hge) (by assumption) (by exact(Al [_,_,_,_] 0x2435060425106024352194015502015321902) (Br _ 2) (B1 (b:=2) _ (by decide)) hm) (fun i h1=>?_) hhi h
    have:=hs i ((l+r) / 2) (by exact(Al [_,_,_,_] 0x300435405024352194215502215321902) (Br _ 2) (B1 (b:=2) _ (by decide)) h1) (by exact(Al [_,_,_,_] 0x2435050102221024352194105502105321902) (Br _ 2) (B1 (b:=2) _ (by decide)) hrk hge)
    exact(Al [_,_,_] 0x100200252415022) c this
theorem Xz (hc:QG rk cmp s N){Q:Array Nat→Ad→Prop}:∀(f:Nat) {p:Array Nat} (hp:DE p N) (k:Nat),k+f=N→N3 rk p k→
  (∀p',DE p' N→N3 rk p' N→Q p' s)→(kas_bin f p k).kasWp cmp Q s
 |0,p,hp,k,hk,hs,h=>h p hp (by rw[←hk];exact hs)
 |f+1,p,hp,k,hk,hs,h=>by
  refine rwL (ES _ _) ?_
  refine P_ hc hp (by exact(Al [_,_,_] 0x1405014250512) hk) hs k 0 k (by exact(Al [_] 0x70)) (Ak _) (by exact(Al [_] 0x7060)) (fun i hi=>by exact(Al [_,_,_] 0x100742502) hi) (fun i h1 h2=>by exact(Al [_,_,_,_] 0x140502435023202) h1 h2) fun l hlk hlo hhi=>?_
  refine Xz hc f (hp.bub _ _) (k+1) (by exact(Al [_,_,_] 0x214055124150512) hk) (fun i j hij hj=>?_) h
  have hks:k<p.size:=by rw[hp.size];exact(Al [_,_,_] 0x1405014250512) hk
  rewrite[V5 hks (by exact(Al [_,_] 0x1060)),V5 hks (by exact(Al [_,_] 0x1060)),show k-(k-l)=l by exact(Al [_,_] 0x11060610102) hlk]
  repeat' split
  all_goals first
   |(exfalso;x_go)
   |exact Ak _
   |exact hlo _ (by exact(Al [_,_,_] 0x1405012125101222002) hij ‹_› ‹_›)
   |exact AU (hhi _ (by exact(Al [_,_,_] 0x416002101405032) ‹_›) (by exact(Al [_,_,_] 0x14406501000425032) ‹_›))
   |exact hs _ _ (by(first|exact(Al [_,_] 0x41640601002) hij|exact(Al [_,_,_,_] 0x4160031014250325300042503221002) hij ‹_› ‹_›|assumption)) (by(first|exact(Al [_,_,_] 0x14406501000425032) ‹_›|exact(Al [_,_,_] 0x14050510004250322520122415405021202) hlk hj ‹_› ‹_›|omega))
theorem Yc (hc:QG rk cmp s N)(h1:1≤N){Q:Array Nat→Ad→Prop}(h:∀p',DE p' N→N3 rk p' N→Q p' s):(kas_sort N).kasWp cmp Q s:=by
 unfold kas_sort
 rw[ES _ _]
 refine WH hc (Array.Perm.refl _) h1 fun m p' hp' h2 h3 hs'=>?_
 by_cases c:m<N
 ·rw[if_pos c]
  refine Xz hc _ hp' _ (by exact(Al [_,_] 0x140d1640d51140502) c) ?_ h
  rewrite[show max m 1=m by exact(Al [_] 0x40d10402) h2]
  exact hs'
 ·rw[if_neg c]
  have e:m=N:=by exact(Al [_,_] 0x101514050221002) h3 c
  subst e
  exact h p' hp' hs'
end
end
section
open Classical
def Yd:PV→Int
 | .int i=>i
 |_=>0
def WI:PV→List Nat×List Int
 | .int i=>([],[i])
 | .tup (.str x::r)=>(x.cps.toList,r.map Yd)
 |_=>([],[])
def RB (a b:List Nat×List Int):Prop:=a.1<b.1∨a.1=b.1∧a.2<b.2
theorem RC (a:List Nat×List Int):¬RB a a:=fun h=>by
 focus(revert h;refine fun zo=>Ap zo (fun h=>?_) fun z0=>?_;rotate_left;clear zo;refine Aw z0 fun uu h=>?_;clear z0;rotate_right;clear zo)
 ·exact Fn _ h
 ·exact Fn _ h
theorem Pd {a b c:List Nat×List Int}(h:RB a b)(g:RB b c):RB a c:=by
 focus(revert h;refine fun zo=>Ap zo (fun h=>?_) fun z0=>?_;rotate_left;clear zo;refine Aw z0 fun e h=>?_;clear z0;rotate_right;clear zo)<;>focus(revert g;refine fun zo=>Ap zo (fun g=>?_) fun z0=>?_;rotate_left;clear zo;refine Aw z0 fun f g=>?_;clear z0;rotate_right;clear zo)
 ·exact .inl (P2 h g)
 ·exact .inl (f▸h)
 ·exact .inl (e▸g)
 ·exact .inr ⟨e.trans f,P2 h g⟩
theorem NH {α:Type}[LT α](tri:∀x y:α,x<y∨x=y∨y<x):∀(a b:List α),a<b∨a=b∨b<a
 |[],[]=> .inr (.inl rfl)
 |[],y::b=> .inl (I7 ..)
 |x::a,[]=> .inr (.inr (I7 ..))
 |x::a,y::b=>by
  focus(refine Ap (tri x y) (fun h=>?_) fun z0=>?_;rotate_left;rcases z0 with rfl|h;rotate_right)
  ·exact .inl (BD.mpr (.inl h))
  ·focus(refine Ap (NH tri a b) (fun h=>?_) fun z0=>?_;rotate_left;rcases z0 with rfl|h;rotate_right)
   ·exact .inl (BD.mpr (.inr ⟨rfl,h⟩))
   ·exact .inr (.inl rfl)
   ·exact .inr (.inr (BD.mpr (.inr ⟨rfl,h⟩)))
  ·exact .inr (.inr (BD.mpr (.inl h)))
theorem WJ (a b:List Nat×List Int):RB a b∨a=b∨RB b a:=by
 focus(refine Ap (NH (fun x y=>D_ x y) a.1 b.1) (fun h=>?_) fun z0=>?_;rotate_left;rcases z0 with h|h;rotate_right)
 ·exact .inl (.inl h)
 ·focus(refine Ap (NH (fun x y=>Int.lt_trichotomy x y) a.2 b.2) (fun g=>?_) fun z0=>?_;rotate_left;rcases z0 with g|g;rotate_right)
  ·exact .inl (.inr ⟨h,g⟩)
  ·exact .inr (.inl (Prod.ext h g))
  ·exact .inr (.inr (.inr ⟨h.symm,g⟩))
 ·exact .inr (.inr (.inl h))
theorem WK {a b c:List Nat×List Int}(h:RB a c):RB a b∨RB b c:=by
 focus(refine Ap (WJ a b) (fun g=>?_) fun z0=>?_;rotate_left;rcases z0 with g|g;rotate_right)
 ·exact .inl g
 ·exact .inr (g▸h)
 ·exact .inr (Pd g h)
def V8 (ks:List (List Nat×List Int))(k:List Nat×List Int):Nat:=(ks.filter fun q=>decide (RB q k)).length
theorem K4 {α:Type}{p q:α→Bool}(l:List α)(h:∀x∈l,p x=true→q x=true):(l.filter p).length≤(l.filter q).length:=by
 induction l with
 |nil=>simp
 |cons x l ih=>
  have:=ih fun y hy=>h y (Af _ hy)
  simp only[MC]
  cases e:p x
  ·cases e':q x
   ·simpa using this
   ·simp only[BN,if_false,if_true,AQ];exact(Al [_,_] 0x415001002) this
  ·rw[h x (Ab ..) e]
   simpa using this
theorem OS {α:Type}{p q:α→Bool}(l:List α)(h:∀x∈l,p x=true→q x=true){y:α}(hy:y∈l)(hp:p y=false)(hq:q y=true):(l.filter p).length<(l.filter q).length:=by
 induction l with
 |nil=>simp at hy
 |cons x l ih=>
  have le:=K4 l fun z hz=>h z (Af _ hz)
  simp only[MC]
  refine Ap (Aq.mp hy) (fun z0=>?_) fun hy=>?_;subst z0
  ·rw[hp,hq]
   simp only[BN,if_false,if_true,AQ];exact(Al [_,_] 0x41540501002) le
  ·have:=ih (fun z hz=>h z (Af _ hz)) hy
   cases e:p x
   ·cases e':q x
    ·simpa using this
    ·simp only[BN,if_false,if_true,AQ];exact(Al [_,_] 0x4154050140502) this
   ·rw[h x (Ab ..) e]
    simpa using this
theorem WL {ks:List (List Nat×List Int)}{a b:List Nat×List Int}(ha:a∈ks):V8 ks a<V8 ks b↔RB a b:=by
 constructor
 ·intro h
  by_cases c:RB a b
  ·exact c
  ·exfalso
   have:V8 ks b≤V8 ks a:=K4 ks fun x uu hx=>by
    simp only[decide_eq_true_eq] at hx ⊢
    exact(WK hx).resolve_right c
   exact(Al [_,_] 0x50102140502) h this
 ·intro h
  exact OS ks (fun x uu hx=>by simp only[decide_eq_true_eq] at hx ⊢;exact Pd hx h) ha (by simpa using RC a) (by simpa using h)
theorem Pe:∀{ps qs:List PV},(∀q∈ps,∃i,q= .int i)→(∀q∈qs,∃i,q= .int i)→OQ ps qs=decide (ps.map Yd<qs.map Yd)
 |[],[],_,_=>(decide_eq_false (Nb _)).symm
 |[],q::qs,_,_=>(decide_eq_true (I7 ..)).symm
 |p::ps,[],_,_=>(decide_eq_false (Nb _)).symm
 |p::ps,q::qs,h,g=>by
  refine AI (h p (Ab ..)) fun i z1=>?_;subst z1
  refine AI (g q (Ab ..)) fun j z1=>?_;subst z1
  have ih:=Pe (fun q m=>h q (Af _ m)) (fun q m=>g q (Af _ m))
  refine(?_:(if PV.int i=PV.int j then OQ ps qs else decide (i<j))=decide (i::ps.map Yd<j::qs.map Yd))
  by_cases e:i=j
  ·subst e
   rw[if_pos rfl,ih]
   exact decide_eq_decide.mpr ⟨fun h=>BD.mpr (.inr ⟨rfl,h⟩),fun h=>(BD.mp h).elim (fun h=>absurd h (Int.lt_irrefl _)) fun h=>h.2⟩
  ·rewrite[if_neg (fun z=>e (PV.int.inj z))]
   exact decide_eq_decide.mpr ⟨fun h=>BD.mpr (.inl h),fun h=>(BD.mp h).elim id fun h=>absurd h.1 e⟩
theorem WM {p q:PV}(h:((∃i,p= .int i)∧∃i,q= .int i)∨(Ll p∧Ll q)):Wq p q=decide (RB (WI p) (WI q)):=by
 focus(revert h;refine fun zo=>Ap zo (fun z0=>?_) fun z0=>?_;rotate_left;clear zo;revert z0;refine fun zq=>Aw zq fun z0 z1=>?_;clear zq;refine BT z0 fun x r z2 hr=>?_;clear z0;subst z2;refine BT z1 fun y t z2 ht=>?_;clear z1;subst z2;rotate_right;clear zo;revert z0;refine fun zq=>Aw zq fun z0 z1=>?_;clear zq;refine AI z0 fun i z1=>?_;clear z0;subst z1;revert z1;refine fun zq=>AI zq fun j z1=>?_;clear zq;subst z1)
 ·refine(?_:decide (i<j)=decide (RB ([],[i]) ([],[j])))
  refine decide_eq_decide.mpr ⟨fun h=> .inr ⟨rfl,BD.mpr (.inl h)⟩,fun h=>h.elim (fun h=>absurd h (Fn _)) fun h=>?_⟩
  exact(BD.mp h.2).elim id fun h=>absurd h.2 (Fn _)
 ·refine(?_:(if PV.str x=PV.str y then OQ r t else decide (x.cps.toList<y.cps.toList))=decide (RB (x.cps.toList,r.map Yd) (y.cps.toList,t.map Yd)))
  by_cases e:x=y
  ·subst e
   rw[if_pos rfl,Pe hr ht]
   exact decide_eq_decide.mpr ⟨fun h=> .inr ⟨rfl,h⟩,fun h=>h.elim (fun h=>absurd h (Fn _)) fun h=>h.2⟩
  ·rewrite[if_neg (fun z=>e (PV.str.inj z))]
   refine decide_eq_decide.mpr ⟨.inl,fun h=>h.elim id fun h=>absurd ?_ e⟩
   induction x using Fj;induction y using Fj
   exact congrArg Str.mk (MD.mp h.1)
end
section
set_option backward.match.sparseCases true
open Classical
section
variable {X:Ctx}{prog:Program}{w:World}{h:Heap}{H:AH}{s:Ad}{A:B2}{E:Ac→Ad→Prop}{d:Nat}{Q:PV→AH→Prop}{post:Ac→Ad→Prop}
theorem QH {b fin:Bool}{C:Bool→Ad→Prop}(hu:A.units+200<cLine):∀{ps qs:List PV} {us vs:List Ac} (i:Nat),AG s.heap ps us→AG s.heap qs vs→(∀q∈ps,∃i,q= .int i)→(∀q∈qs,∃i,q= .int i)→
  fin=decide (ps.length<qs.length)→C (OQ ps qs) s→KatLex prog w A b fin C (us.zip vs) (i+1) s
 |[],[],[],[],i,_,_,_,_,hf,hC=>by subst hf;exact kat_nil hC
 |[],q::qs,[],v::vs,i,_,_,_,_,hf,hC=>by
  subst hf
  exact kat_nil hC
 |p::ps,[],u::us,[],i,_,_,_,_,hf,hC=>by
  subst hf
  exact kat_nil hC
 |p::ps,q::qs,u::us,v::vs,i,r,r',hp,hq,hf,hC=>by
  (replace r:=AG.c r;replace r':=AG.c r')
  refine AI (hp p (Ab ..)) fun x z1=>?_;subst z1
  refine AI (hq q (Ab ..)) fun y z1=>?_;subst z1
  refine kat_cons (HQ rfl rfl r.1 r'.1 (by exact(Al [_,_] 0x147055014c82805502) hu) ?_)
  refine kat_go (fun e=>?_) fun e=>?_
  ·have e':PV.int x= .int y:=of_decide_eq_true e
   refine kat_yes (QH hu (i+1) r.2 r'.2 (fun q m=>hp q (Af _ m)) (fun q m=>hq q (Af _ m)) (by rw[hf];simp) ?_)
   have z:OQ (.int x::ps) (.int y::qs)=OQ ps qs:=if_pos e'
   rw[z] at hC
   exact hC
  ·have e':PV.int x≠ .int y:=of_decide_eq_false e
   refine EJ r.1 fun t=>?_
   refine EJ r'.1 fun t'=>?_
   have hb:(b&&i+1 == 0)=false:=by simp
   refine kat_no ?_
   rw[hb]
   refine kat_one _ _ (OG ?_)
   refine(?_:C (decide (x<y)) s)
   have z:OQ (.int x::ps) (.int y::qs)=Wq (.int x) (.int y):=if_neg e'
   rw[z] at hC
   exact hC
 |[],[],[],_::_,_,_,r,_,_,_,_=>by exact AF r
 |[],_::_,[],[],_,_,r,_,_,_,_=>by exact AF r
 |[],_,_::_,_,_,r,_,_,_,_,_=>by exact AF r
 |_::_,_,[],_,_,r,_,_,_,_,_=>by exact AF r
 |_::_,[],_::_,_::_,_,_,r,_,_,_,_=>by exact AF r
 |_::_,_::_,_::_,[],_,_,r,_,_,_,_=>by exact AF r
theorem WN {p q:PV}{u v:Ac}{C:Bool→Ad→Prop}(hu:A.units+200<cLine)(rp:AP s.heap p u)(rq:AP s.heap q v)(fp:Ll p)(fq:Ll q)(dp:p.data=true)(dq:q.data=true)(hC:C (Wq p q) s):wpAny (model prog w) A (keyLt' (tuples' true) u v) C E s:=by
 refine BT fp fun x r z2 hr=>?_;clear fp;subst z2
 refine BT fq fun y t z2 ht=>?_;clear fq;subst z2
 refine Md rp fun a xs ga ra=>?_
 refine Md rq fun b ys gb rb=>?_
 refine kat_lt ga rfl gb rfl ?_
 match xs,ra with
 |[],ra=>exact AF ra
 |u::us,ra=>
  match ys,rb with
  |[],rb=>exact AF rb
  |v::vs,rb=>
   have z1:=ra.len
   have z2:=rb.len
   (replace ra:=AG.c ra;replace rb:=AG.c rb)
   replace dp:=Ae.mp dp;replace dq:=Ae.mp dq
   refine kat_cons (HQ (p:= .str x) (q:= .str y) dp.1 dq.1 ra.1 rb.1 (by exact(Al [_,_] 0x147055014c82805502) hu) ?_)
   refine kat_go (fun e=>?_) fun e=>?_
   ·have e':PV.str x= .str y:=of_decide_eq_true e
    refine kat_yes (QH hu 0 ra.2 rb.2 hr ht ?_ ?_)
    ·simp only[AE]
     simp only[AQ] at z1 z2 ⊢
     congr 1
     apply propext
     x_go
    ·have z:Wq (.tup (.str x::r)) (.tup (.str y::t))=OQ r t:=if_pos e'
     rw[z] at hC
     exact hC
   ·have e':PV.str x≠ .str y:=of_decide_eq_false e
    refine Mc ra.1 fun k1=>?_
    refine Mc rb.1 fun k2=>?_
    refine kat_no (oneLt_str ?_)
    have z:Wq (.tup (.str x::r)) (.tup (.str y::t))=Wq (.str x) (.str y):=if_neg e'
    rw[z] at hC
    exact hC
theorem SV {h:Heap}:∀{ps:List PV} {vs:List Ac},AG h ps vs→(∀p∈ps,Ll p)→∃fs,KatTups h vs fs∧fs.length=vs.length∧∀f∈fs,∃x t,f= .str x t
 |[],[],_,_=>⟨[],KatTups.nil,rfl,fun uu h=>by simp at h⟩
 |[],_::_,r,_=>by exact AF r
 |_::_,[],r,_=>by exact AF r
 |p::ps,v::vs,r,hf=>by
  replace r:=AG.c r
  refine CP (SV r.2 fun p m=>hf p (Af _ m)) fun fs k l hs=>?_
  refine BT (hf p (Ab ..)) fun x q z2 uu=>?_;subst z2
  refine Md r.1 fun a xs g rr=>?_
  match xs,rr with
  |[],rr=>exact AF rr
  |u::us,rr=>
   replace rr:=AG.c rr
   refine AI (JH rr.1) fun t z1=>?_;subst z1
   exact⟨.str x t::fs,KatTups.cons g rfl rfl (by exact rfl) k,by simp[l],fun f m=>(Aq.mp m).elim (fun e=>⟨x,t,e⟩) (hs f)⟩
theorem AG.getD {h:Heap}{ps:List PV}{vs:List Ac}(r:AG h ps vs){i:Nat}(hi:i<ps.length):AP h (ps.getD i .none) (vs.getD i .none):=by
 have e:ps[i]? =some ps[i]:=Ah hi
 refine AB (r.get e) fun v e2 rv=>?_
 rw[show ps.getD i .none=ps[i] by simp[Cd,e],show vs.getD i .none=v by simp[Cd,e2]]
 exact rv
theorem E3 {ps:List PV}{i:Nat}(hi:i<ps.length):ps.getD i .none∈ps:=by
 have e:ps[i]? =some ps[i]:=Ah hi
 rw[show ps.getD i .none=ps[i] by simp[Cd,e]]
 exact CG hi
def WO (ps:List PV)(i:Nat):Nat:=V8 (ps.map WI) (WI (ps.getD i .none))
theorem RD {ps:List PV}(hs:(∀p∈ps,∃i,p= .int i)∨∀p∈ps,Ll p){i j:Nat}(hi:i<ps.length)(hj:j<ps.length):decide (WO ps i<WO ps j)=Wq (ps.getD i .none) (ps.getD j .none):=by
 rw[WM (hs.imp (fun h=>⟨h _ (E3 hi),h _ (E3 hj)⟩) fun h=>⟨h _ (E3 hi),h _ (E3 hj)⟩)]
 congr 1
 apply propext
 exact WL (Bk (E3 hi))
theorem Gy {α:Type}(l:List α)(d:α):(Am l.length).map (fun i=>l.getD i d)=l:=by
 apply MG (by simp)
 intro i h1 h2
 simp[Cd,h2]
theorem MM {h:Heap}:∀{ps:List PV} {vs:List Ac},AG h ps vs→(∀p∈ps,∃i,p= .int i)→∃ns,IntsAre vs ns
 |[],[],_,_=>⟨[], .nil⟩
 |[],_::_,r,_=>by exact AF r
 |_::_,[],r,_=>by exact AF r
 |p::ps,v::vs,r,hf=>by
  replace r:=AG.c r
  refine AI (MM r.2 fun p m=>hf p (Af _ m)) fun ns k=>?_
  refine AI (hf p (Ab ..)) fun i z1=>?_;subst z1
  refine EJ r.1 fun t=>?_
  exact⟨i::ns, .cons i t k⟩
theorem Ye {α:Type}{l:List α}(h:2≤l.length):∃a b r,l=a::b::r:=by
 induction l using Az with
 |nil=>exact absurd h (E8 _)
 |cons a r=>induction r using Az with
  |nil=>exact absurd h (G1 1)
  |cons b r=>exact⟨a,b,r,rfl⟩
theorem RE:∀{ps:List PV},ps.length<2→FT ps
 |[],_=>List.Pairwise.nil
 |[_],_=>List.pairwise_singleton ..
 |_::_::_,h=>absurd h (Nat.not_lt_of_le (CF (CF (AM _))))
theorem QJ (O:Own X h H s){ps:List PV}{vs:List Ac}{a n:Nat}{P:PySem.Fin→Ad→Prop}(r:AG h ps vs)(hs:FS ps)(g:s.heap.get? a=some (seqObj "list" vs.toArray n))(ha:h.get? a=none)(Ha:H a=none)(hu:A.units+200<cLine)
  (k:∀ws us s' n',ws.Perm ps→FT ws→AG h ws us→s'.heap.get? a=some (seqObj "list" us.toArray n')→Own X h H s'→P (.done (.ret .none)) s'):
  wpAny (model X.prog X.w) A (Builtin.«list.sort» ⟨[.ref a],[]⟩) P E s:=by
 refine M6 hs fun h64 hd hdp hkind=>?_;clear hs
 have z:=r.len
 obtain ⟨e1,ho1⟩:∃e1,(s.heap.update a (BP fun uu=>(#[]:Array Ac))).get? a=some (seqObj "list" #[] e1):=⟨_,EP g fun uu=>#[]⟩
 have O1:=O.other Ha ha (Au s.heap a (BP fun uu=>(#[]:Array Ac)))
 have O3:=(O1.push (seqObj "tuple" vs.toArray 0)).push (seqObj "list" #[] 0)
 rw[list_sort_plain _]
 refine A7 (listItems_at g rfl ?_)
 refine A7 (Ke g rfl ?_ (by rw[AE,AV];exact(Al [_,_] 0x100000078000112402841502) h64 z) (AM _))
 refine A7 (MY ho1 rfl ?_)
 refine A7 (wpAny_newTuple ?_ (by refine(?_:vs.length≤_);rw[AV];exact(Al [_,_] 0x100000078000112402841502) h64 z))
 refine A7 (wpAny_newList ?_ (AM _))
 refine Ay ?_
 have g3:(((s.heap.update a (BP fun uu=>(#[]:Array Ac))).push (seqObj "tuple" vs.toArray 0)).push (seqObj "list" #[] 0)).get? a=some (seqObj "list" #[] e1):=Aj _ (Aj _ ho1)
 refine(?_:wpAny _ A _ P E {s with heap:=((s.heap.update a (BP fun uu=>(#[]:Array Ac))).push (seqObj "tuple" vs.toArray 0)).push (seqObj "list" #[] 0)})
 dsimp only
 by_cases h2:vs.toArray.size<2
 ·rw[if_pos h2,if_pos h2]
  refine A7 (A9 ?_)
  rw[StateT.run_pure _ _]
  refine A7 (A9 ?_)
  refine A7 (MY g3 rfl ?_)
  have hout:(arrOf (SA general' (vs.toArray.zip vs.toArray) #[] 7 none)).map (·.2)=vs.toArray:=by
   refine(?_:(vs.toArray.zip vs.toArray).map (·.2)=vs.toArray)
   apply Array.ext (by simp)
   intro i h1 h2
   simp
  have hout':(vs.toArray.zip vs.toArray).map (·.2)=vs.toArray:=hout
  refine A7 (Ke g3 rfl ?_ (AM _) (by rw[hout];rw[AE,AV];exact(Al [_] 0x410000007850021840502) h2))
  simp only[bne_self_eq_false,BN,if_false]
  rw[hout]
  obtain ⟨c2,hc2⟩:∃c2,((((s.heap.update a (BP fun uu=>(#[]:Array Ac))).push (seqObj "tuple" vs.toArray 0)).push (seqObj "list" #[] 0)).update a (BP fun uu=>vs.toArray)).get? a=some (seqObj "list" vs.toArray c2):=⟨_,EP g3 fun uu=>vs.toArray⟩
  refine A9 (k ps vs _ c2 (Cx _) ?_ r hc2 (O3.other Ha ha (Au _ a _)))
  exact RE (z▸h2)
 ·rw[if_neg h2,if_neg h2]
  have hl2:2≤vs.length:=by simpa using h2
  have rr:=AG.keeps O3.keep _ r
  have ask:∀κ:SortKind,(∀i j C,i<vs.length→j<vs.length→C (decide (WO ps i<WO ps j)) {s with heap:=((s.heap.update a (BP fun uu=>(#[]:Array Ac))).push (seqObj "tuple" vs.toArray 0)).push (seqObj "list" #[] 0)}→
    kas_ask X.prog X.w A κ vs i j C {s with heap:=((s.heap.update a (BP fun uu=>(#[]:Array Ac))).push (seqObj "tuple" vs.toArray 0)).push (seqObj "list" #[] 0)})→
    wpAny (model X.prog X.w) A ((sortRuns').run (SA κ (vs.toArray.zip vs.toArray) #[] 7 none)) (fun r s'=>∃p:Array Nat,DE p vs.length∧N3 (WO ps) p vs.length∧arrOf r.2=p.map (kas_item (vs.toArray.zip vs.toArray))∧failedOf r.2=none∧
     s'={s with heap:=((s.heap.update a (BP fun uu=>(#[]:Array Ac))).push (seqObj "tuple" vs.toArray 0)).push (seqObj "list" #[] 0)}) E {s with heap:=((s.heap.update a (BP fun uu=>(#[]:Array Ac))).push (seqObj "tuple" vs.toArray 0)).push (seqObj "list" #[] 0)}:=fun κ hc=>by
   refine kat_run (Q:=fun st' s'=>∃p:Array Nat,DE p vs.length∧N3 (WO ps) p vs.length∧arrOf st'=p.map (kas_item (vs.toArray.zip vs.toArray))∧failedOf st'=none∧s'={s with heap:=((s.heap.update a (BP fun uu=>(#[]:Array Ac))).push (seqObj "tuple" vs.toArray 0)).push (seqObj "list" #[] 0)}) (G:=fun p s'=>DE p vs.length∧N3 (WO ps) p vs.length∧s'={s with heap:=((s.heap.update a (BP fun uu=>(#[]:Array Ac))).push (seqObj "tuple" vs.toArray 0)).push (seqObj "list" #[] 0)}) (ks:=vs) rfl hl2 (by exact(Al [_,_] 0x402840500112402841502) h64 z) (fun p st' s' uu a2 a3 a4=>⟨p,a4.1,a4.2.1,a2,a3,a4.2.2⟩) ?_
   exact Yc hc (by exact AU ‹_›) fun p' h1 h2=>⟨h1,h2,rfl⟩
  refine ZY (P:=∀κ:SortKind,(∀i j C,i<vs.length→j<vs.length→C (decide (WO ps i<WO ps j)) {s with heap:=((s.heap.update a (BP fun uu=>(#[]:Array Ac))).push (seqObj "tuple" vs.toArray 0)).push (seqObj "list" #[] 0)}→
    kas_ask X.prog X.w A κ vs i j C {s with heap:=((s.heap.update a (BP fun uu=>(#[]:Array Ac))).push (seqObj "tuple" vs.toArray 0)).push (seqObj "list" #[] 0)})→
    wpAny (model X.prog X.w) A ((?code:SortKind→Sem PySem.Fin) κ) P E {s with heap:=((s.heap.update a (BP fun uu=>(#[]:Array Ac))).push (seqObj "tuple" vs.toArray 0)).push (seqObj "list" #[] 0)}) (fun fin=>?_) ?_
  rotate_left
  ·refine hkind.elim (fun hi=>?_) fun ht=>?_
   ·refine AI (MM r hi) fun ns hI=>?_
    obtain ⟨v₁,v₂,rest,e0⟩:∃v₁ v₂ rest,vs=v₁::v₂::rest:=by
     exact Ye hl2
    have hk:keyKind' vs.toArray=pure oneType':=by subst e0;exact keyKind_ints hI
    rw[hk]
    refine A7 (A9 ?_)
    generalize hκ:oneType'=κ
    refine fin κ fun i j C hi' hj' hC=>?_
    subst hκ
    unfold kas_ask
    refine AI (hi _ (E3 (ps:=ps) (i:=i) (by exact(Al [_,_,_] 0x140502405022112) z hi'))) fun x ex=>?_
    refine AI (hi _ (E3 (ps:=ps) (i:=j) (by exact(Al [_,_,_] 0x140502405022112) z hj'))) fun y ey=>?_
    have rx:=r.getD (i:=i) (by exact(Al [_,_,_] 0x140502405022112) z hi')
    have ry:=r.getD (i:=j) (by exact(Al [_,_,_] 0x140502405022112) z hj')
    rw[RD (.inl hi) (by exact(Al [_,_,_] 0x140502405022112) z hi') (by exact(Al [_,_,_] 0x140502405022112) z hj')] at hC
    rw[ex] at rx hC
    rw[ey] at ry hC
    refine AI (Gp rx) fun t e3=>?_
    refine AI (Gp ry) fun t' e4=>?_
    rw[e3,e4]
    exact kat_lt_int hC
   ·refine CP (SV rr ht) fun fs hk hl hst=>?_
    refine A7 (kat_kind hk (by exact(Al [_,_] 0x47501012121802) hl2 hl) (T:= .type "str") (fun f m=>?_) (by decide) ?_)
    ·refine IV (hst f m) fun x t z2=>?_;subst z2
     exact .now
    ·have e5:(E_ "str" != E_ "tuple")=true:=by decide
     rw[e5]
     generalize hκ:(tuples' true)=κ
     refine fin κ fun i j C hi' hj' hC=>?_
     subst hκ
     have rx:=rr.getD (i:=i) (by exact(Al [_,_,_] 0x140502405022112) z hi')
     have ry:=rr.getD (i:=j) (by exact(Al [_,_,_] 0x140502405022112) z hj')
     rw[RD (.inr ht) (by exact(Al [_,_,_] 0x140502405022112) z hi') (by exact(Al [_,_,_] 0x140502405022112) z hj')] at hC
     exact WN hu rx ry (ht _ (E3 (by exact(Al [_,_,_] 0x140502405022112) z hi'))) (ht _ (E3 (by exact(Al [_,_,_] 0x140502405022112) z hj'))) (Dx hd (E3 (by exact(Al [_,_,_] 0x140502405022112) z hi'))) (Dx hd (E3 (by exact(Al [_,_,_] 0x140502405022112) z hj'))) hC
  ·intro κ hc
   refine A7 (Dc (ask κ hc) ?_ fun uu uu e=>e)
   intro z20;rcases z20 with⟨⟨⟩,st'⟩;intro s' z22;refine Rq z22 fun p hp hso har hf z5=>?_;clear z22;subst z5
   have hout:=kat_snds (ks:=vs) rfl har
   have hsz:(IK (p.toList.map fun i=>vs.getD i Bl)).size=vs.length:=by rw[AE,Ag _,BF,hp.size];rfl
   refine A7 (MY g3 rfl ?_)
   rw[hout]
   refine A7 (Ke g3 rfl ?_ (AM _) (Aa (DL hsz) (by rw[AV];exact(Al [_,_] 0x41000000785000112402841502) h64 z)))
   rw[hf]
   simp only[bne_self_eq_false,BN,if_false]
   obtain ⟨c2,hc2⟩:∃c2,((((s.heap.update a (BP fun uu=>(#[]:Array Ac))).push (seqObj "tuple" vs.toArray 0)).push (seqObj "list" #[] 0)).update a (BP fun uu=>IK (p.toList.map fun i=>vs.getD i Bl))).get? a=some (seqObj "list" (IK (p.toList.map fun i=>vs.getD i Bl)) c2):=⟨_,EP g3 fun uu=>IK (p.toList.map fun i=>vs.getD i Bl)⟩
   have hpl:p.toList.Perm (Am vs.length):=by simpa using GI.mp hp
   refine A9 (k (p.toList.map fun i=>ps.getD i .none) (p.toList.map fun i=>vs.getD i Bl) _ c2 ?_ ?_ ?_ hc2 (O3.other Ha ha (Au _ a _)))
   ·have:=hpl.map (fun i=>ps.getD i PV.none)
    rw[←z,Gy] at this
    exact this
   ·unfold FT
    rewrite[Cg,G_]
    intro i j hi hj hij
    have hi':i<vs.length:=by rw[←hp.size];simpa using hi
    have hj':j<vs.length:=by rw[←hp.size];simpa using hj
    have:=hso i j (AU hij) hj'
    have e:∀q (hq:q<p.toList.length),p.toList[q]=p.getD q 0:=fun q hq=>by
     have:q<p.size:=by simpa using hq
     simp[Ct,this]
    rw[e i hi,e j hj]
    rw[←RD hkind (by rw[z];exact hp.lt hj') (by rw[z];exact hp.lt hi')]
    exact decide_eq_false (by unfold Gk at this;exact(Al [_,_] 0x51405020102) this)
   ·have hm:∀l:List Nat,(∀i∈l,i<ps.length)→AG h (l.map fun i=>ps.getD i .none) (l.map fun i=>vs.getD i .none):=by
     intro l
     induction l with
     |nil=>intro _;exact AG.n
     |cons i l ih=>
      intro hl
      exact AG.d ⟨r.getD (hl i (Ab ..)),ih fun j m=>hl j (Af _ m)⟩
    refine hm _ fun i m=>?_
    have:=hpl.mem_iff.mp m
    rw[z]
    simpa using this
end
end
section
open SetTable
theorem NI {xs:Array Nat}{j:Nat}(hr:∀a b,a<b→b<xs.size→xs.getD a 0<xs.getD b 0):∀(fuel lo hi:Nat),hi-lo≤fuel→lo≤hi→hi≤xs.size→(∀k,k<lo→xs.getD k 0<j)→(∀k,hi≤k→k<xs.size→j≤xs.getD k 0)→
  ∃p,below.go xs j fuel lo hi=p∧p≤xs.size∧(∀k,k<p→xs.getD k 0<j)∧(∀k,p≤k→k<xs.size→j≤xs.getD k 0)
 |0,lo,hi,hf,hl,hs,h1,h2=>⟨lo,rfl,by exact Aa ‹_› ‹_›,h1,fun k hk=>h2 k (by exact(Al [_,_,_] 0x1001202720602) hf hk)⟩
 |fuel+1,lo,hi,hf,hl,hs,h1,h2=>by
  rewrite[show below.go xs j (fuel+1) lo hi=if lo<hi then(if xs.getD ((lo+hi) / 2) j<j then below.go xs j fuel ((lo+hi) / 2+1) hi else below.go xs j fuel lo ((lo+hi) / 2)) else lo from rfl]
  by_cases c:lo<hi
  ·rw[if_pos c]
   by_cases d:xs.getD ((lo+hi) / 2) j<j
   ·rw[if_pos d]
    have e:xs.getD ((lo+hi) / 2) 0<j:=by
     have:(lo+hi) / 2<xs.size:=by exact(Al [_,_,_,_] 0x2435014050221024352194105502105321902) (Br _ 2) (B1 (b:=2) _ (by decide)) hs c
     simpa [Ct,this] using d
    refine NI hr fuel _ hi (by exact(Al [_,_,_,_] 0x2435060425106024352194015502015321902) (Br _ 2) (B1 (b:=2) _ (by decide)) hf) (by exact(Al [_,_,_] 0x142501405024252194105502105221902) (Br _ 2) (B1 (b:=2) _ (by decide)) c) hs (fun k hk=>?_) h2
    by_cases q:k=(lo+hi) / 2
    ·rw[q];exact e
    ·exact Gs (hr k ((lo+hi) / 2) (by exact(Al [_,_,_,_] 0x34050530122435405024352194215502215321902) (Br _ 2) (B1 (b:=2) _ (by decide)) hk q) (by exact(Al [_,_,_,_] 0x2435014050221024352194105502105321902) (Br _ 2) (B1 (b:=2) _ (by decide)) hs c)) e
   ·rw[if_neg d]
    have e:j≤xs.getD ((lo+hi) / 2) 0:=by
     have:(lo+hi) / 2<xs.size:=by exact(Al [_,_,_,_] 0x2435014050221024352194105502105321902) (Br _ 2) (B1 (b:=2) _ (by decide)) hs c
     simpa [Ct,this] using d
    refine NI hr fuel lo _ (by exact(Al [_,_,_,_] 0x20360425016024352194105502105321902) (Br _ 2) (B1 (b:=2) _ (by decide)) hf) (by exact(Al [_,_,_] 0x2001405024252194105502105221902) (Br _ 2) (B1 (b:=2) _ (by decide)) c) (by exact(Al [_,_,_,_] 0x23014050221024352194105502105321902) (Br _ 2) (B1 (b:=2) _ (by decide)) hs c) h1 fun k hk hk2=>?_
    by_cases q:k=(lo+hi) / 2
    ·rw[q];exact e
    ·exact Aa e (AU (hr ((lo+hi) / 2) k (by exact(Al [_,_,_,_] 0x2435053212223024352194105502105321902) (Br _ 2) (B1 (b:=2) _ (by decide)) hk q) hk2))
  ·rw[if_neg c]
   exact⟨lo,rfl,by exact Aa ‹_› ‹_›,h1,fun k hk=>h2 k (by exact(Al [_,_,_] 0x100120250425022) c hk)⟩
def XA (xs:Array Nat):Prop:=∀a b,a<b→b<xs.size→xs.getD a 0<xs.getD b 0
theorem FA {xs:Array Nat}(hr:XA xs)(j:Nat):below xs j≤xs.size∧(∀k,k<below xs j→xs.getD k 0<j)∧(∀k,below xs j≤k→k<xs.size→j≤xs.getD k 0):=by
 refine AB (NI hr xs.size 0 xs.size (by exact(Al [_] 0x7060)) (by exact(Al [_] 0x70)) (Ak _) (fun k hk=>by exact(Al [_,_,_] 0x14050742502) hk) (fun k hk hk2=>by exact(Al [_,_,_,_] 0x1002435023202) hk hk2) (j:=j)) fun p e h=>?_
 have:below xs j=p:=e
 rw[this]
 exact h
structure TOk (t:SetTable)(n:Nat):Prop where
 size:t.place.size=n
 ris:XA t.place
 le:∀k,k<n→t.place.getD k 0≤t.mask
 dum:t.dummies=#[]
 mask:t.mask=7∨t.mask=31
 room:n*5<t.mask*3
theorem TOk.fits {t:SetTable}{n:Nat}(h:TOk t n):t.fits n=true:=by
 have:=h.room
 have m:=h.mask
 unfold Kh Ki
 rw[h.dum,h.size]
 simp
 exact(Al [_,_] 0x100131a4051a502) this
theorem TOk.gave {t:SetTable}{n:Nat}(h:TOk t n):t.gaveWay=false:=by
 unfold SetTable.gaveWay
 rcases h.mask with e|e<;>rw[e]<;>rfl
theorem RF {t:SetTable}(hd:t.dummies=#[]){j:Nat}(h:∀k:Nat,t.place[k]? ≠some j):t.slot j= .empty:=by
 unfold HL
 rw[if_neg (by simpa using h _),if_neg (by rw[hd];simp[LZ])];rfl
theorem RG {t:SetTable}(hd:t.dummies=#[])(j:Nat):(t.slot j= .empty∧t.place[below t.place j]? ≠some j)∨∃i,t.slot j= .live i∧t.place[i]? =some j:=by
 unfold HL
 by_cases c:t.place[below t.place j]? =some j
 ·rw[if_pos (by simpa using c)]
  exact .inr ⟨_,rfl,c⟩
 ·rw[if_neg (by simpa using c),if_neg (by rw[hd];simp[LZ])]
  exact .inl ⟨rfl,c⟩
theorem Yf {xs:Array Nat}{m:Nat}(h:xs.size≤m):∃e:Nat,e≤m∧∀k:Nat,xs[k]? ≠some e:=by
 refine Cb fun c=>?_
 have all:∀e∈Am (m+1),e∈xs.toList:=fun e he=>by
  refine Cb fun d=>c ⟨e,by simpa [Nat.lt_succ_iff] using he,fun k hk=>d ?_⟩
  have:=Array.mem_of_getElem? hk
  simpa using this
 have:=(I9 (n:=m+1)).length_le_of_subset (fun e he=>all e he)
 simp at this
 exact(Al [_,_] 0x50415021002) h this
def cq (m i:Nat):Nat:=(i*5+1) % (m+1)
def V9 (m:Nat):Nat→Nat→Nat
 |0,i=>i
 |n+1,i=>V9 m n (cq m i)
theorem WP {m:Nat}(hm:m=7∨m=31):∀i,i≤m→∀e,e≤m→∃k,k≤m∧V9 m k i=e:=by
 have h7:∀i:Fin 8,∀e:Fin 8,∃k:Fin 8,V9 7 k.val i.val=e.val:=by decide
 have h31:∀i:Fin 32,∀e:Fin 32,∃k:Fin 32,V9 31 k.val i.val=e.val:=by decide+kernel
 intro i hi e he
 focus(revert hm;refine fun zo=>Ap zo (fun z0=>?_) fun z0=>?_;rotate_left;clear zo;subst z0;rotate_right;clear zo;subst z0)
 ·refine AI (h7 ⟨i,by exact AJ ‹_› (by decide)⟩ ⟨e,by exact AJ ‹_› (by decide)⟩) fun k hk=>?_
  exact⟨k.val,by have:=k.isLt;exact(Al [_] 0x7180081840502) this,hk⟩
 ·refine AI (h31 ⟨i,by exact AJ ‹_› (by decide)⟩ ⟨e,by exact AJ ‹_› (by decide)⟩) fun k hk=>?_
  exact⟨k.val,by have:=k.isLt;exact(Al [_] 0x1f2800202840502) this,hk⟩
def Ga (m:Nat):Nat→Nat×Nat→Nat×Nat
 |0,x=>x
 |n+1,x=>Ga m n (leap m x.1 x.2)
theorem Mg (m:Nat):∀(a b:Nat) (x:Nat×Nat),Ga m (a+b) x=Ga m b (Ga m a x)
 |0,b,x=>by rw[L_ _];rfl
 |a+1,b,x=>by rewrite[show a+1+b=a+b+1 by exact(Al [_,_] 0x41055140551)];exact Mg m a b _
theorem NJ (m:Nat):∀(n:Nat) (x:Nat×Nat),(Ga m n x).2=x.2 / 32 ^ n
 |0,x=>(Nat.div_one _).symm
 |n+1,x=>by
  refine(?_:(Ga m n (leap m x.1 x.2)).2=_)
  rw[NJ m n _]
  unfold leap
  rw[Nat.div_div_eq_div_mul _ _ _,Nat.pow_succ _ _,Nat.mul_comm _ _];rfl
theorem NK (m:Nat):∀(n i:Nat),Ga m n (i,0)=(V9 m n i,0)
 |0,i=>rfl
 |n+1,i=>by
  refine(?_:Ga m n (leap m i 0)=_)
  have:leap m i 0=(cq m i,0):=by unfold leap cq;exact rfl
  rw[this,NK m n _]
  rfl
theorem QK (m:Nat):∀(n:Nat) (x:Nat×Nat),x.1≤m→(Ga m n x).1≤m
 |0,x,h=>h
 |n+1,x,h=>QK m n _ (by unfold leap;dsimp only;have:=El (x.1*5+1+x.2 / 32) (show 0<m+1 from BK m);exact(Al [0,0,_,0,_] 0x241b0425441b502) this)
theorem Pf {m:Nat}(hm:m=7∨m=31){i p:Nat}(hi:i≤m)(hp:p<2 ^ 64){e:Nat}(he:e≤m):∃n,1≤n∧n≤m+13∧(Ga m n (i,p)).1=e:=by
 have h0:Ga m 13 (i,p)=((Ga m 13 (i,p)).1,0):=by
  have:=NJ m 13 (i,p)
  have z:p / 32 ^ 13=0:=Nat.div_eq_of_lt (by exact Aa ‹_› (by decide))
  dsimp only at this
  rw[z] at this
  exact Prod.ext rfl this
 refine AB (WP hm _ (QK m 13 (i,p) hi) e he) fun k hk hq=>?_
 refine⟨13+k,by exact(Al [_] 0xd18540),by exact(Al [_,_] 0xd18150d18501002) hk,?_⟩
 rw[Mg _ _ _ _,h0,NK _ _ _]
 exact hq
structure POk (t:SetTable)(p:Probe):Prop where
 j:p.j+p.more≤t.mask
 more:p.more≤9
 i:p.i≤t.mask
 pert:p.perturb<2 ^ 64
 dum:p.dummy=none
theorem JI {m i:Nat}(h:i≤m):i≤runEnd m i∧runEnd m i≤m∧runEnd m i-i≤9:=by unfold runEnd;split<;>(first|exact(Al [_,_] 0x91809180560191805039180500319180502) ‹_›|exact(Al [_,_] 0x9180060100300031002) h|omega)
theorem POk.adv {t:SetTable}{p:Probe}(h:POk t p):POk t (t.advance p):=by
 rcases h with⟨h1,h2,h3,h4,h5⟩
 unfold I3
 by_cases c:p.more>0
 ·rw[if_pos c]
  exact⟨by dsimp only;exact(Al [_,_,_] 0x241640550147502210502) h1 c,by dsimp only;exact(Al [_] 0x9184060918002) h2,h3,h4,h5⟩
 ·rw[if_neg c]
  unfold leap
  have hi:(p.i*5+1+p.perturb / 32) % (t.mask+1)≤t.mask:=by have:=El (p.i*5+1+p.perturb / 32) (show 0<t.mask+1 from BK t.mask);exact(Al [0,0,_,0,_] 0x241b0425441b502) this
  have hr:=JI hi
  exact⟨by dsimp only;exact(Al [0,0,_,_,0,_] 0x251b3651b5091851b3602303351b032) hr,by dsimp only;exact(Al [_,0,0,_,0,_] 0x91851b06091851b0603003051b032) hr,hi,by dsimp only;x_go,h5⟩
theorem POk.start {t:SetTable}(h:Int):POk t (t.probeStart h):=by
 unfold SetTable.probeStart
 have hi:bits h % (t.mask+1)≤t.mask:=by have:=El (bits h) (show 0<t.mask+1 from BK t.mask);exact(Al [0,_,_] 0x12041542502) this
 have hr:=JI hi
 refine⟨by dsimp only;exact(Al [0,_,_,_] 0x13263509183260120323032) hr,by dsimp only;exact(Al [_,0,_,_] 0x91830609183060200303032) hr,hi,?_,rfl⟩
 unfold bits
 x_go
def advs (t:SetTable):Nat→Probe→Probe
 |0,p=>p
 |n+1,p=>advs t n (t.advance p)
theorem F3 (t:SetTable):∀(a b:Nat) (p:Probe),advs t (a+b) p=advs t b (advs t a p)
 |0,b,x=>by rw[L_ _];rfl
 |a+1,b,x=>by rewrite[show a+1+b=a+b+1 by exact(Al [_,_] 0x41055140551)];exact F3 t a b _
theorem Mh (t:SetTable):∀(n:Nat) (p:Probe),p.more=n→(advs t (n+1) p).j=(leap t.mask p.i p.perturb).1∧(advs t (n+1) p).i=(leap t.mask p.i p.perturb).1∧(advs t (n+1) p).perturb=(leap t.mask p.i p.perturb).2
 |0,p,h=>by
  have e:t.advance p={p with j:=(leap t.mask p.i p.perturb).1,more:=runEnd t.mask (leap t.mask p.i p.perturb).1-(leap t.mask p.i p.perturb).1,i:=(leap t.mask p.i p.perturb).1,perturb:=(leap t.mask p.i p.perturb).2}:=by
   unfold I3
   rewrite[if_neg (by exact(Al [_] 0x50475027012) h)];rfl
  refine(?_:(t.advance p).j=_∧(t.advance p).i=_∧(t.advance p).perturb=_)
  rw[e]
  exact⟨rfl,rfl,rfl⟩
 |n+1,p,h=>by
  have e:t.advance p={p with j:=p.j+1,more:=p.more-1}:=by unfold I3;rewrite[if_pos (by exact(Al [_,_] 0x4750415012) h)];rfl
  refine(?_:(advs t (n+1) (t.advance p)).j=_∧(advs t (n+1) (t.advance p)).i=_∧(advs t (n+1) (t.advance p)).perturb=_)
  rw[e]
  exact Mh t n {p with j:=p.j+1,more:=p.more-1} (by dsimp only;exact(Al [_,_] 0x14061415012) h)
theorem POk.advs {t:SetTable}:∀(n:Nat) {p:Probe},POk t p→POk t (advs t n p)
 |0,_,h=>h
 |n+1,_,h=>POk.advs n h.adv
theorem NL {t:SetTable}:∀(n:Nat) {p:Probe},POk t p→∃k,k≤10*(n+1)∧(advs t k p).j=(Ga t.mask (n+1) (p.i,p.perturb)).1∧(advs t k p).i=(Ga t.mask (n+1) (p.i,p.perturb)).1∧(advs t k p).perturb=(Ga t.mask (n+1) (p.i,p.perturb)).2
 |0,p,h=>⟨p.more+1,by have:=h.more;exact AJ ‹_› (by decide),Mh t p.more p rfl⟩
 |n+1,p,h=>by
  refine L6 (NL n h) fun k hk h1 h2 h3=>?_
  have hp:=h.advs k
  refine⟨k+((Mine.Internal.advs t k p).more+1),by have:=hp.more;exact(Al [_,_,_] 0x44255a19415050918102425a19002) hk this,?_⟩
  rw[F3 _ _ _ _]
  have:=Mh t (Mine.Internal.advs t k p).more (Mine.Internal.advs t k p) rfl
  rw[h2,h3] at this
  rw[Mg t.mask (n+1) 1 _]
  exact this
theorem Jd {t:SetTable}{n:Nat}(h:TOk t n){p:Probe}(hp:POk t p):∃k,k<10*turns t.mask∧t.slot (advs t k p).j= .empty:=by
 have hn:t.place.size≤t.mask:=by rw[h.size];have:=h.room;exact(Al [_,_] 0x100131a4051a502) this
 refine AB (Yf hn) fun e he hq=>?_
 refine CP (Pf h.mask hp.i hp.pert he) fun m h1 h2 h3=>?_
 refine CP (NL (m-1) hp) fun k hk h4 uu=>?_
 rw[show m-1+1=m by exact(Al [_] 0x4406510402) h1] at hk h4
 refine⟨k,by unfold turns;exact(Al [_,_,_] 0xf1815a1940502a19002d1815202) h2 hk,?_⟩
 rw[h4,h3]
 exact RF h.dum hq
end
section
open SetTable
structure TPre (t:SetTable)(n:Nat):Prop where
 size:t.place.size=n
 ris:XA t.place
 le:∀k,k<n→t.place.getD k 0≤t.mask
 dum:t.dummies=#[]
 mask:t.mask=7∨t.mask=31
 room:n≤t.mask
theorem TPre.fits {t:SetTable}{n:Nat}(h:TPre t n):t.fits n=true:=by
 have:=h.room
 unfold Kh Ki
 rw[h.dum,h.size]
 simp
 assumption
theorem TPre.ok {t:SetTable}{n:Nat}(h:TPre t n)(r:n*5<t.mask*3):TOk t n:=⟨h.size,h.ris,h.le,h.dum,h.mask,r⟩
theorem Ew {xs:Array Nat}{p j:Nat}(hp:p≤xs.size)(k:Nat):(insertAt xs p j).getD k 0=if k<p then xs.getD k 0 else if k=p then j else xs.getD (k-1) 0:=by
 have e:(insertAt xs p j).getD k 0=((insertAt xs p j).toList[k]?).getD 0:=by simp[AT]
 rw[e,Hz _ _ _]
 have g:∀q:Nat,xs.getD q 0=(xs.toList[q]?).getD 0:=fun q=>by simp[AT]
 have lt:(xs.toList.take p).length=p:=by simp;exact(Al [_,_] 0x10c11002) hp
 by_cases c:k<p
 ·rw[if_pos c];rewrite[Ca (by exact(Al [_,_,_] 0x140502405022112) lt c)];rw[HB c,g _];rfl
 ·rw[if_neg c];rewrite[Cu (by exact(Al [_,_,_] 0x100524150222012) lt c)];rw[lt]
  by_cases d:k=p
  ·rw[if_pos d,d];simp
  ·rw[if_neg d,g _]
   obtain ⟨q,rfl⟩:∃q,k=p+1+q:=⟨k-p-1,by exact(Al [_,_] 0x4106641550151012251405022) c d⟩
   rewrite[show p+1+q-p=q+1 by exact(Al [_,_] 0x41501405561)];rw[Cp,KT]
   congr 2
   exact(Al [_,_] 0x41405561051)
theorem DN {α:Type}(xs:Array α)(p:Nat)(x:α):(insertAt xs p x).size=xs.size+1:=by
 have:=(SetTable.insertAt_perm xs p x).length_eq
 simpa using this
theorem TOk.put {t:SetTable}{n:Nat}(h:TOk t n){j:Nat}(hj:j≤t.mask)(hs:∀k,k<n→t.place.getD k 0≠j):TPre (t.put j).1 (n+1)∧(t.put j).2≤n:=by
 refine DF (FA h.ris j) fun b1 b2 b3=>?_
 have hm:=h.mask
 have hr:=h.room
 unfold SetTable.put
 dsimp only
 rw[if_neg (by rw[h.dum];simp[LZ])]
 refine⟨⟨?_,?_,?_,h.dum,h.mask,?_⟩,by rw[←h.size];exact b1⟩
 ·rw[DN _ _ _,h.size];rfl
 ·intro a b hab hb
  rw[DN] at hb
  rw[Ew b1 _,Ew b1 _]
  have hz:=h.size
  by_cases c1:a<below t.place j
  ·rw[if_pos c1]
   by_cases c2:b<below t.place j
   ·rw[if_pos c2];exact h.ris a b hab (by exact Bt ‹_› ‹_›)
   ·rw[if_neg c2]
    by_cases c3:b=below t.place j
    ·rw[if_pos c3];exact b2 a c1
    ·rw[if_neg c3];exact h.ris a (b-1) (by exact(Al [_,_,_] 0x416405052112252415022240502) c1 c2 c3) (by exact(Al [_,_,_] 0x14406505201225240502241540502) hb c2 c3)
  ·rw[if_neg c1]
   by_cases c2:a=below t.place j
   ·rw[if_pos c2];rewrite[if_neg (by exact(Al [_,_,_] 0x51405021212042502) hab c2),if_neg (by exact(Al [_,_,_] 0x510121212042502) hab c2)]
    have:=b3 (b-1) (by exact(Al [_,_,_] 0x416000212142502) hab c2) (by exact(Al [_,_,_] 0x144065041540502042502) hab hb)
    have:=hs (b-1) (by exact(Al [_,_,_,_] 0x1440650131243540502042502) hab hb hz)
    exact(Al [_,_] 0x140505011221002) ‹_› this
   ·rw[if_neg c2];rewrite[if_neg (by exact(Al [_,_,_] 0x514050251425022042502) hab c1),if_neg (by exact(Al [_,_,_] 0x5101251425022042502) hab c1)]
    exact h.ris (a-1) (b-1) (by exact(Al [_,_,_] 0x41644065052012252405022140502) hab c1 c2) (by exact(Al [_,_,_] 0x144065041540502042502) hab hb)
 ·intro k hk
  rw[Ew b1 _]
  have hz:=h.size
  split
  ·exact h.le k (by exact(Al [_,_,_,_] 0x1405024050213123202) b1 hz ‹_›)
  ·split
   ·exact hj
   ·exact h.le (k-1) (by exact(Al [_,_,_] 0x14406505201225240502241540502) hk ‹_› ‹_›)
 ·refine(?_:n+1≤t.mask)
  exact(Al [_,_] 0x14050131a4051a502) hr
def D0 (m:Nat)(owner:Array (Option Nat)):List (Nat×Nat):=(Am (m+1)).filterMap fun j=>(owner.getD j none).map (j,·)
theorem K6 {α:Type}{f g:Nat→Option α}{j:Nat}{y:α}(hf:f j=none)(hg:g j=some y)(he:∀k,k≠j→f k=g k):∀{l:List Nat},l.Nodup→j∈l→(l.filterMap g).Perm (y::l.filterMap f)
 |[],_,h=>by simp at h
 |k::l,hn,h=>by
  refine Aw (BR.mp hn) fun h1 h2=>?_
  by_cases c:k=j
  ·subst c
   rw[BE,BE,hf,hg]
   dsimp only
   have cg:∀l:List Nat,(∀x∈l,f x=g x)→l.filterMap g=l.filterMap f:=by
    intro l
    induction l with
    |nil=>intro _;rfl
    |cons x l ih=>intro hx;rw[BE,BE,hx x (Ab ..),ih fun y hy=>hx y (Af _ hy)];rfl
   have:l.filterMap g=l.filterMap f:=cg l fun x hx=>he x (fun e=>h1 (e▸hx))
   rw[this];rfl
  ·have ih:=K6 hf hg he h2 ((Aq.mp h).resolve_left (fun e=>c e.symm))
   rw[BE,BE,he k c]
   cases g k with
   |none=>exact ih
   |some z=>exact(Ea z ih).trans (GT ..)
theorem Pg {m:Nat}{owner:Array (Option Nat)}{e:Nat}(ho:owner.getD e (some 0)=none):∀(n fuel i p:Nat),i≤m→(Ga m n (i,p)).1=e→n<fuel→
  ∃j,layClean.free m owner fuel i p=some j∧j≤m∧owner.getD j (some 0)=none
 |n,0,i,p,_,_,h=>absurd h (Bj _)
 |n,fuel+1,i,p,hi,hl,hf=>by
  rewrite[show layClean.free m owner (fuel+1) i p=OM (layClean.free m owner fuel (leap m i p).1 (leap m i p).2) (fun k=>some (i+k)) ((Am (runEnd m i+1-i)).find? fun k=>(owner.getD (i+k) (some 0)).isNone) by kernel_rfl]
  have hr:=JI hi
  cases c:(Am (runEnd m i+1-i)).find? fun k=>(owner.getD (i+k) (some 0)).isNone with
  |some k=>
   have h1:=List.find?_some c
   have h2:=List.mem_of_find?_eq_some c
   simp only[BA] at h2
   exact⟨i+k,rfl,by exact(Al [_,_,_,_] 0x2105004356415029180360230330032) hr h2,GW.mp h1⟩
  |none=>
   dsimp only
   match n,hl,hf with
   |0,hl,hf=>
    have:i=e:=hl
    subst this
    have:=KD.mp c 0 (by simp;exact(Al [_,_,_] 0x1405647509181060200301032) hr)
    simp[ho] at this
   |n+1,hl,hf=>
    refine Pg ho n fuel _ _ ?_ hl (by exact(Al [_,_] 0x140504154405502) hf)
    unfold leap
    dsimp only
    have:=El (i*5+1+p / 32) (show 0<m+1 from BK m)
    exact(Al [0,0,_,0,_] 0x241b0425441b502) this
theorem QM {m:Nat}(hm:m=7∨m=31):∀(hs:List Int) (owner:Array (Option Nat)) (k:Nat),owner.size=m+1→k+hs.length≤m→((D0 m owner).map (·.2)).Perm (Am k)→
  ∃owner' k',hs.foldl (fun acc h=>do
   let(owner,k)←acc
   let j←layClean.free m owner (turns m) (bits h % (m+1)) (bits h)
   pure (owner.setIfInBounds j (some k),k+1)) (some (owner,k))=some (owner',k')∧owner'.size=m+1∧((D0 m owner').map (·.2)).Perm (Am (k+hs.length))
 |[],owner,k,ho,_,hp=>⟨owner,k,rfl,ho,hp⟩
 |h::hs,owner,k,ho,hk,hp=>by
  simp only[AQ] at hk
  have hf:∃e,e≤m∧owner.getD e (some 0)=none:=by
   refine Cb fun c=>?_
   have all:∀e,e≤m→∃x,owner.getD e none=some x:=fun e he=>by
    refine Cb fun d=>c ⟨e,he,?_⟩
    have lt:e<owner.size:=by exact(Al [_,_,_] 0x140502002425112) ho he
    cases q:owner[e] with
    |none=>simp[Ct,lt,q]
    |some x=>exact absurd ⟨x,by simp[Ct,lt,q]⟩ d
   have hl:(D0 m owner).length=m+1:=by
    unfold D0
    have:∀l:List Nat,(∀e∈l,e≤m)→(l.filterMap fun j=>(owner.getD j none).map (j,·)).length=l.length:=by
     intro l
     induction l with
     |nil=>intro _;rfl
     |cons a l ih=>
      intro hl
      refine AI (all a (hl a (Ab ..))) fun x hx=>?_
      rw[BE,hx]
      simp only[By,AQ]
      rw[ih fun e he=>hl e (Af _ he)];rfl
    rewrite[this _ fun e he=>by have:=BA.mp he;exact(Al [_,_] 0x10041540502) this]
    simp
   have:=hp.length_eq
   rw[Ag,hl] at this
   simp at this
   exact(Al [_,_,_] 0x504251224150502) hk this
  refine AB hf fun e he hoe=>?_;clear hf
  have hi:bits h % (m+1)≤m:=by have:=El (bits h) (show 0<m+1 from BK m);exact(Al [0,_,_] 0x12041542502) this
  have hb:bits h<2 ^ 64:=by unfold bits;x_go
  refine CP (Pf hm hi hb he) fun n h1 h2 h3=>?_
  refine CP (Pg hoe n (turns m) _ _ hi h3 (by unfold turns;exact(Al [_,_] 0xf18154050d1815002) h2)) fun j hj hjm hjo=>?_
  have hjs:j<owner.size:=by exact(Al [_,_,_] 0x140502002425112) ho hjm
  refine Cv (QM hm hs (owner.setIfInBounds j (some k)) (k+1) (by rw[HG];exact ho) (by exact(Al [_,_,_] 0x214055024150502) hk) (by
   have e1:(D0 m (owner.setIfInBounds j (some k))).Perm ((j,k)::D0 m owner):=by
    refine K6 (j:=j) ?_ ?_ (fun q hq=>?_) I9 (by simp;exact(Al [_,_] 0x41540501002) hjm)
    ·have:owner[j]=none:=by simpa [Ct,hjs] using hjo
     simp[Ct,hjs,this]
    ·simp[Ct,hjs]
    ·simp only[AT,CT]
     rewrite[if_neg (fun e=>hq e.symm)];rfl
   have e2:=(e1.map (·.2))
   simp only[B9] at e2
   rw[IR]
   exact e2.trans ((Ea k hp).trans (List.perm_append_singleton k _).symm))) fun o' k' r1 r2 r3=>?_
  refine FQ o' k' ?_ r2 (by rw[AQ];rewrite[show k+(hs.length+1)=k+1+hs.length by exact(Al [_,_] 0x14055415051)];exact r3)
  rw[IS]
  have:(do
   let(owner,k)←some (owner,k)
   let j←layClean.free m owner (turns m) (bits h % (m+1)) (bits h)
   pure (owner.setIfInBounds j (some k),k+1):Option (Array (Option Nat)×Nat))=some (owner.setIfInBounds j (some k),k+1):=by
   simp only[Gl,D4,hj]
   rfl
  rw[this]
  exact r1
theorem TO (m:Nat)(owner:Array (Option Nat)):((D0 m owner).map (·.1)).Pairwise (· <·)∧∀j∈(D0 m owner).map (·.1),j≤m:=by
 have hsub:∀l:List Nat,((l.filterMap fun j=>(owner.getD j none).map (j,·)).map (·.1)).Sublist l:=by
  intro l
  induction l with
  |nil=>simp
  |cons a l ih=>
   rw[BE]
   cases owner.getD a none with
   |none=>exact ih.cons _
   |some x=>exact ih.cons_cons _
 exact⟨List.Pairwise.sublist (hsub _) List.pairwise_lt_range,fun j hj=>by have:=(hsub _).subset hj;simp at this;exact(Al [_,_] 0x10041540502) this⟩
theorem TP {m:Nat}(hm:m=7∨m=31)(finger moves:Nat)(led plain:Bool)(hs:Array Int)(hn:hs.size≤m):
  ∃t order,laid m finger moves led plain hs=some (t,order)∧TPre t hs.size∧order.toList.Perm (Am hs.size)∧t.led=led∧t.plain=plain∧t.mask=m:=by
 have h0:((D0 m (ET (m+1) (none:Option Nat))).map (·.2)).Perm (Am 0):=by
  have:D0 m (ET (m+1) (none:Option Nat))=[]:=by
   apply List.filterMap_eq_nil_iff.mpr
   intro a ha
   have:(ET (m+1) (none:Option Nat)).getD a none=none:=by
    simp only[AT,HH]
    split<;>rfl
   rw[this]
   rfl
  rw[this]
  exact Cx _
 refine Cv (QM hm hs.toList (ET (m+1) none) 0 (by simp) (by simpa using hn) h0) fun o k r1 r2 r3=>?_
 have hl:layClean m hs=some o:=by
  unfold layClean
  rw[←KW _,r1]
  rfl
 unfold laid
 rw[hl]
 refine Uy _ _ rfl ?_ ?_ rfl rfl rfl
 ·have e:=r3.length_eq
  rw[Ag] at e
  simp only[L_,AO,BF] at e
  refine Aw (TO m o) fun p1 p2=>?_
  refine⟨?_,?_,?_,rfl,hm,hn⟩
  ·refine(?_:((D0 m o).map (·.1)).toArray.size=_)
   rw[AE,Ag _,e];rfl
  ·intro a b hab hb
   have hb':b<((D0 m o).map (·.1)).length:=by simpa [D0] using hb
   have ha':a<((D0 m o).map (·.1)).length:=by exact(Al [_,_,_] 0x14050142502240502) hab hb'
   have:=G_.mp p1 a b ha' hb' hab
   refine(?_:((D0 m o).map (·.1)).toArray.getD a 0<((D0 m o).map (·.1)).toArray.getD b 0)
   rw[show((D0 m o).map (·.1)).toArray.getD a 0=((D0 m o).map (·.1))[a] by simp only[AT,Db,Ah ha',FN],show((D0 m o).map (·.1)).toArray.getD b 0=((D0 m o).map (·.1))[b] by simp only[AT,Db,Ah hb',FN]]
   exact this
  ·intro k hk
   have hk':k<((D0 m o).map (·.1)).length:=by rw[Ag _,e];exact hk
   refine(?_:((D0 m o).map (·.1)).toArray.getD k 0≤m)
   rw[show((D0 m o).map (·.1)).toArray.getD k 0=((D0 m o).map (·.1))[k] by simp only[AT,Db,Ah hk',FN]]
   exact p2 _ (CG _)
 ·simpa [D0] using r3
end
section
open SetTable
def tm (m:Nat):SetTable:={mask:=m,place:=#[],dummies:=#[],finger:=0,led:=true,moves:=0,plain:=true}
theorem Q0 (t:SetTable):∀(n:Nat) (p:Probe),advs t n p=advs (tm t.mask) n p
 |0,_=>rfl
 |n+1,p=>Q0 t n _
theorem QN (t:SetTable)(h:Int):t.probeStart h=(tm t.mask).probeStart h:=rfl
def sq (m:Nat)(h:Int)(n:Nat):Nat:=(advs (tm m) n ((tm m).probeStart h)).j
def RP (m:Nat)(full:Nat→Prop)(h:Int)(s:Nat):Prop:=∃n,sq m h n=s∧∀q,q<n→full (sq m h q)
theorem ad (m:Nat)(h:Int)(n:Nat):sq m h n≤m:=by
 have:=(POk.advs n (POk.start (t:=tm m) h)).j
 have e:(tm m).mask=m:=rfl
 exact(Al [_,_,_] 0x100120502) this
theorem RP.mono {m:Nat}{full full':Nat→Prop}{h:Int}{s:Nat}(r:RP m full h s)(k:∀x,x≤m→full x→full' x):RP m full' h s:=
 let⟨n,e,f⟩:=r;⟨n,e,fun q hq=>k _ (ad m h q) (f q hq)⟩
theorem Je (m:Nat):∀(n:Nat) (p:Probe),n≤p.more→(advs (tm m) n p).j=p.j+n∧(advs (tm m) n p).more=p.more-n∧(advs (tm m) n p).i=p.i∧(advs (tm m) n p).perturb=p.perturb∧(advs (tm m) n p).dummy=p.dummy
 |0,p,_=>⟨rfl,rfl,rfl,rfl,rfl⟩
 |n+1,p,h=>by
  have e:(tm m).advance p={p with j:=p.j+1,more:=p.more-1}:=if_pos (by exact(Al [_,_] 0x4750041502) h)
  refine(?_:(advs (tm m) n ((tm m).advance p)).j=_∧(advs (tm m) n ((tm m).advance p)).more=_∧(advs (tm m) n ((tm m).advance p)).i=_∧(advs (tm m) n ((tm m).advance p)).perturb=_∧(advs (tm m) n ((tm m).advance p)).dummy=_)
  rw[e]
  refine Eb (Je m n {p with j:=p.j+1,more:=p.more-1} (by dsimp only;exact(Al [_,_] 0x41600140502) h)) fun h1 h2 h3 h4 h5=>?_
  exact⟨by rw[h1];dsimp only;exact(Al [_,_] 0x41505140551),by rw[h2];dsimp only;exact(Al [_,_] 0x41506140661),h3,h4,h5⟩
theorem TQ (m:Nat)(p:Probe):advs (tm m) (p.more+1) p={j:=(leap m p.i p.perturb).1,more:=runEnd m (leap m p.i p.perturb).1-(leap m p.i p.perturb).1,i:=(leap m p.i p.perturb).1,perturb:=(leap m p.i p.perturb).2,dummy:=p.dummy}:=by
 refine Eb (Je m p.more p (Ak _)) fun h1 h2 h3 h4 h5=>?_
 rw[F3 _ _ _ _]
 refine(?_:(tm m).advance (advs (tm m) p.more p)=_)
 refine(if_neg (by exact(Al [_,_] 0x5047502116012) h2)).trans ?_
 rw[h3,h4,h5]
 rfl
theorem NM {m:Nat}{owner:Array (Option Nat)}:∀(fuel i pt:Nat) {j:Nat},i≤m→layClean.free m owner fuel i pt=some j→
  ∃q,(advs (tm m) q ⟨i,runEnd m i-i,i,pt,none⟩).j=j∧∀r,r<q→owner.getD (advs (tm m) r ⟨i,runEnd m i-i,i,pt,none⟩).j (some 0)≠none
 |0,i,pt,j,_,h=>CC h
 |fuel+1,i,pt,j,hi,h=>by
  have hr:=JI hi
  rw[show layClean.free m owner (fuel+1) i pt=OM (layClean.free m owner fuel (leap m i pt).1 (leap m i pt).2) (fun k=>some (i+k)) ((Am (runEnd m i+1-i)).find? fun k=>(owner.getD (i+k) (some 0)).isNone) by kernel_rfl] at h
  cases c:(Am (runEnd m i+1-i)).find? fun k=>(owner.getD (i+k) (some 0)).isNone with
  |some k=>
   rw[c] at h
   replace h:=Ai h;subst h
   refine DF (List.find?_range_eq_some.mp c) fun c1 c2 c3=>?_
   replace c2:=BA.mp c2
   refine⟨k,(Je m k _ (by dsimp only;exact(Al [_,_,_] 0x216002415640502) c2)).1,fun r hr2=>?_⟩
   rewrite[(Je m r _ (by dsimp only;exact(Al [_,_,_,_] 0x216003405022415643502) c2 hr2)).1]
   have:=c3 r hr2
   intro z
   rw[z] at this
   exact absurd this AD
  |none=>
   rw[c] at h
   replace h:layClean.free m owner fuel (leap m i pt).1 (leap m i pt).2=some j:=h
   have full:∀k,k<runEnd m i+1-i→owner.getD (i+k) (some 0)≠none:=fun k hk=>by
    have:=KD.mp c k (by simpa using hk)
    intro z
    rw[z] at this
    exact absurd rfl this
   have hi2:(leap m i pt).1≤m:=by
    have:=El (i*5+1+pt / 32) (show 0<m+1 from BK m)
    exact(Al [0,0,_,0,_] 0x241b0425441b502) this
   refine AB (NM fuel _ _ hi2 h) fun q e f=>?_
   have nx:=TQ m ⟨i,runEnd m i-i,i,pt,none⟩
   dsimp only at nx
   refine⟨runEnd m i-i+1+q,by rw[F3 _ _ _ _,nx];exact e,fun r hr2=>?_⟩
   by_cases d:r≤runEnd m i-i
   ·rw[(Je m r _ (by dsimp only;assumption)).1]
    exact full r (by exact(Al [_,_,_,_] 0x2415640502160029182160310312032) hr d)
   ·have e2:r=runEnd m i-i+1+(r-(runEnd m i-i+1)):=by exact(Al [_,_,_] 0x42165064216550152160022) d
    rw[e2,F3 _ _ _ _,nx]
    exact f _ (by exact(Al [_,_,_,_] 0x344216506504216506421655012342165540502) hr2 e2)
theorem Ph {m:Nat}(all:List Int):∀(hs:List Int) (owner:Array (Option Nat)) (k:Nat),hs=all.drop k→owner.size=m+1→
  (∀j q,owner.getD j none=some q→RP m (fun x=>owner.getD x (some 0)≠none) (all.getD q 0) j)→∀owner' k',hs.foldl (fun acc h=>do
   let(owner,k)←acc
   let j←layClean.free m owner (turns m) (bits h % (m+1)) (bits h)
   pure (owner.setIfInBounds j (some k),k+1)) (some (owner,k))=some (owner',k')→owner'.size=m+1∧∀j q,owner'.getD j none=some q→RP m (fun x=>owner'.getD x (some 0)≠none) (all.getD q 0) j
 |[],owner,k,_,ho,hp,owner',k',e=>by
  simp only[List.foldl_nil,Bs,P0] at e
  rw[←e.1]
  exact⟨ho,hp⟩
 |h::hs,owner,k,hd,ho,hp,owner',k',e=>by
  rw[IS] at e
  have hi:bits h % (m+1)≤m:=by have:=El (bits h) (show 0<m+1 from BK m);exact(Al [0,_,_] 0x12041542502) this
  cases c:layClean.free m owner (turns m) (bits h % (m+1)) (bits h) with
  |none=>
   exfalso
   have e0:(do
    let(owner,k)←some (owner,k)
    let j←layClean.free m owner (turns m) (bits h % (m+1)) (bits h)
    pure (owner.setIfInBounds j (some k),k+1):Option (Array (Option Nat)×Nat))=none:=by
    simp only[Gl,D4,c,Option.bind_none]
   rw[e0] at e
   have:∀l:List Int,l.foldl (fun(acc:Option (Array (Option Nat)×Nat)) h=>do
    let(owner,k)←acc
    let j←layClean.free m owner (turns m) (bits h % (m+1)) (bits h)
    pure (owner.setIfInBounds j (some k),k+1)) none=none:=by
    intro l
    induction l with
    |nil=>rfl
    |cons a l ih=>rw[IS];exact ih
   rw[this] at e
   exact CC e
  |some j=>
   have e0:(do
    let(owner,k)←some (owner,k)
    let j←layClean.free m owner (turns m) (bits h % (m+1)) (bits h)
    pure (owner.setIfInBounds j (some k),k+1):Option (Array (Option Nat)×Nat))=some (owner.setIfInBounds j (some k),k+1):=by
    simp only[Gl,D4,c]
    rfl
   rw[e0] at e
   have up:∀x,owner.getD x (some 0)≠none→(owner.setIfInBounds j (some k)).getD x (some 0)≠none:=fun x hx=>by
    simp only[AT,CT] at hx ⊢
    split
    ·split<;>simp
    ·exact hx
   refine Ph all hs _ (k+1) ?_ (by rw[HG];exact ho) (fun j' q hq=>?_) owner' k' e
   ·rw[CB (by
     have:=congrArg Do hd
     simp only[AQ,I8] at this
     exact(Al [_,_,_] 0x1405001642512) this)] at hd
    exact(HN hd).2
   ·by_cases d:j=j'
    ·subst d
     have hk:(owner.setIfInBounds j (some k)).getD j none=some q→q=k:=fun z=>by
      simp only[AT,CT,if_true] at z
      split at z
      ·simp at z;exact z.symm
      ·simp at z
     have:=hk hq
     subst this
     have hh:all.getD q 0=h:=by
      have l:q<all.length:=by
       have:=congrArg Do hd
       simp only[AQ,I8] at this
       exact(Al [_,_,_] 0x1405001642512) this
      rw[CB l] at hd
      simp[Cd,l,(HN hd).1]
     rw[hh]
     refine AB (NM _ _ _ hi c) fun n e1 f=>?_
     exact⟨n,e1,fun r hr=>up _ (f r hr)⟩
    ·have:owner.getD j' none=some q:=by
      simp only[AT,CT] at hq ⊢
      rw[if_neg d] at hq
      exact hq
     exact(hp j' q this).mono fun x uu=>up x
def Yg (t:SetTable)(y:Nat):Prop:=∃z,z<t.place.size∧t.place.getD z 0=y
def cr (t:SetTable)(hs:List Int):Prop:=∀x,x<hs.length→RP t.mask (Yg t) (hs.getD x 0) (t.place.getD x 0)
theorem RH {m:Nat}{finger moves:Nat}{led plain:Bool}{hs:Array Int}{t:SetTable}{order:Array Nat}(hl:laid m finger moves led plain hs=some (t,order))(ho:order.toList.Perm (Am hs.size)):
  cr t (order.toList.map fun q=>hs.toList.getD q 0):=by
 unfold laid at hl
 cases c:layClean m hs with
 |none=>rw[c] at hl;exact CC hl
 |some o=>
  rw[c] at hl
  have hl':(⟨m,((D0 m o).map (·.1)).toArray,#[],finger,led,moves,plain⟩,((D0 m o).map (·.2)).toArray)=(t,order):=Ai hl
  refine Aw (Prod.mk.inj hl') fun z0 z1=>?_;subst z0;subst z1
  unfold layClean at c
  rw[←KW] at c
  cases c2:hs.toList.foldl (fun acc h=>do
   let(owner,k)←acc
   let j←layClean.free m owner (turns m) (bits h % (m+1)) (bits h)
   pure (owner.setIfInBounds j (some k),k+1)) (some (ET (m+1) (none:Option Nat),0)) with
  |none=>rw[c2] at c;exact CC c
  |some z=>
   rcases z with⟨o',k'⟩
   rw[c2] at c
   have c3:o'=o:=Ai c
   subst c3
   have R:=Ph hs.toList hs.toList _ 0 rfl (by simp) (fun j q hq=>by
    simp only[AT,HH] at hq
    split at hq<;>simp at hq) o' k' c2
   revert R;refine fun zq=>Aw zq fun hz R=>?_;clear zq
   have key:∀jq∈D0 m o',o'.getD jq.1 none=some jq.2:=fun jq hm=>by
    unfold D0 at hm
    refine AB (Co.mp hm) fun j hj hq=>?_
    cases d:o'.getD j none with
    |none=>rw[d] at hq;exact CC hq
    |some q=>
     rw[d] at hq
     have hq':(j,q)=jq:=Ai hq
     rw[←hq']
     exact d
   have mem:∀y,y≤m→o'.getD y (some 0)≠none→∃q,(y,q)∈D0 m o':=fun y hy hn=>by
    have lt:y<o'.size:=by exact(Al [_,_,_] 0x140502002425112) hz hy
    cases d:o'[y] with
    |none=>exact absurd (by simp[Ct,lt,d]) hn
    |some q=>
     refine⟨q,Co.mpr ⟨y,by simp;exact(Al [_,_] 0x41540501002) hy,?_⟩⟩
     have:o'.getD y none=some q:=by simp[Ct,lt,d]
     rw[this]
     rfl
   generalize D0 m o'=L at key mem ⊢
   intro x hx
   have hx':x<L.length:=by simpa using hx
   have e1:((DH (·.2) L).toArray.toList.map fun q=>hs.toList.getD q 0).getD x 0=hs.toList.getD L[x].2 0:=by
    simp[Cd,hx']
   have e2:(DH (·.1) L).toArray.getD x 0=L[x].1:=by
    simp[Ct,hx']
   rw[e1]
   refine(?_:RP m _ _ ((DH (·.1) L).toArray.getD x 0))
   rw[e2]
   refine(R _ _ (key _ (CG hx'))).mono fun y hy hn=>?_
   refine AI (mem y hy hn) fun q hq=>?_
   refine AI (JZ hq) fun z zr=>?_;refine AI zr fun hz2 e3=>?_;clear zr
   refine⟨z,by simpa using hz2,?_⟩
   refine(?_:(DH (·.1) L).toArray.getD z 0=y)
   simp[Ct,hz2,e3]
end
section
open SetTable Classical
theorem Mi {t:SetTable}{n:Nat}(h:TOk t n){hashAt:Nat→Int}{hs:Int}:∀(fuel k:Nat) {p:Probe},POk t p→k<fuel→t.slot (advs t k p).j= .empty→
  ∃n1,n1≤k∧(∀q,q<n1→∃i,t.place[i]? =some (advs t q p).j∧hashAt i≠hs)∧
   ((probe.go t hashAt hs fuel p=some (.empty (advs t n1 p).j none)∧t.slot (advs t n1 p).j= .empty)∨
    ∃i,probe.go t hashAt hs fuel p=some (.candidate (advs t n1 p).j i (advs t (n1+1) p))∧t.place[i]? =some (advs t n1 p).j∧t.slot (advs t n1 p).j= .live i∧hashAt i=hs∧n1<k)
 |0,k,p,_,hk,_=>absurd hk (Bj _)
 |fuel+1,k,p,hp,hk,he=>by
  have u:∀x,t.slot p.j=x→probe.go t hashAt hs (fuel+1) p=SetTable.Slot.rec (some (.empty p.j p.dummy)) (probe.go t hashAt hs fuel (t.advance {p with dummy:=some p.j})) (fun i=>if hashAt i == hs then some (.candidate p.j i (t.advance p)) else probe.go t hashAt hs fuel (t.advance p)) x:=fun x e=>by rw[←e];kernel_rfl
  focus(refine Ap (RG h.dum p.j) (fun z0=>?_) fun z0=>?_;rotate_left;refine AB z0 fun i e hi=>?_;clear z0;rotate_right;refine Aw z0 fun e uu=>?_;clear z0)
  ·rw[u _ e]
   refine⟨0,AM _,fun q hq=>absurd hq (Bj _), .inl ⟨?_,e⟩⟩
   rw[hp.dum]
   rfl
  ·rw[u _ e]
   dsimp only
   match k,hk,he with
   |0,hk,he=>
    have:t.slot p.j= .empty:=he
    rw[e] at this
    cases this
   |k+1,hk,he=>
    by_cases c:hashAt i=hs
    ·rw[if_pos (by simpa using c)]
     exact⟨0,AM _,fun q hq=>absurd hq (Bj _), .inr ⟨i,rfl,hi,e,c,BK _⟩⟩
    ·rw[if_neg (by simpa using c)]
     rcases Mi h fuel k hp.adv (by exact(Al [_,_] 0x140504154405502) hk) he with⟨n1,h1,h2,h3⟩
     refine⟨n1+1,by exact(Al [_,_] 0x41540501002) h1,fun q hq=>?_,?_⟩
     ·match q,hq with
      |0,_=>exact⟨i,hi,c⟩
      |q+1,hq=>exact h2 q (by exact(Al [_,_] 0x140504154405502) hq)
     ·focus(revert h3;refine fun zo=>Ap zo (fun h3=>?_) fun z0=>?_;rotate_left;clear zo;refine Rq z0 fun i' a1 a2 a3 a4 a5=>?_;clear z0;rotate_right;clear zo)
      ·exact .inl h3
      ·exact .inr ⟨i',a1,a2,a3,a4,by exact(Al [_,_] 0x415440550140502) a5⟩
section
variable {prog:Program}{w:World}{A:B2}{E:Ac→Ad→Prop}{s:Ad}
set_option smartUnfolding false in
theorem MN:∀(n:Nat) (p:PV) {v:Ac} {s:Ad} {Q:Bool→Ad→Prop},p.data=true→AP s.heap p v→p.deep≤n→Q false s→wpAny (model prog w) A (ofAClassStatement n v) Q E s:=by
 intro n
 induction n with
 |zero=>
  intro p v s Q d r hd h
  induction p using Mine.Internal.PV.casesOn with
  |none=>replace r:=AP.n r;subst r;exact A9 h
  |int i=>replace r:=AP.i r;refine AI r fun t z1=>?_;clear r;subst z1;exact A9 h
  |str x=>replace r:=AP.s r;refine AI r fun t z1=>?_;clear r;subst z1;exact A9 h
  |tup vs=>exact absurd hd (E8 _)
  |_=>exact FI d
 |succ n ih=>
  intro p v s Q d r hd h
  induction p using Mine.Internal.PV.casesOn with
  |none=>replace r:=AP.n r;subst r;exact A9 h
  |int i=>replace r:=AP.i r;refine AI r fun t z1=>?_;clear r;subst z1;exact A9 h
  |str x=>replace r:=AP.s r;refine AI r fun t z1=>?_;clear r;subst z1;exact A9 h
  |tup vs=>
   replace r:=AP.t r
   refine Cv r fun a xs z2 g l=>?_;clear r;subst z2
   have hT:s.TypeIs (.ref a) "tuple":=⟨_,g,rfl⟩
   refine A7 (Fp hT ?_)
   refine A7 (A9 ?_)
   refine A7 (DC g rfl ?_)
   refine A7 ?_
   refine(?_:wpAny _ _ (forIn xs.toArray _ _) _ _ s)
   rw[←GP]
   refine Dz _ (fun rest r s'=>r=(none,())∧s'=s∧∃ps,AG s.heap ps rest∧C9 ps=true∧B_ ps≤n) _ ?_ ?_ _ _ ⟨rfl,rfl,vs,by simpa only[CW] using l,d,Fd hd⟩
   ·intro v rest r s' z24;refine Aw z24 fun hr zr=>?_;clear z24;revert zr;refine fun zq=>Aw zq fun z0 zr=>?_;clear zq;subst z0;refine CP zr fun ps lp dp hp=>?_;clear zr
    induction ps using Az with
    |nil=>exact AF lp
    |cons p ps=>
     replace lp:=AG.c lp
     replace dp:=Ae.mp dp
     have c:p.deep≤DG p.deep (B_ ps):=Ge ..
     have e:B_ ps≤DG p.deep (B_ ps):=FO ..
     replace hp:DG p.deep (B_ ps)≤n:=hp
     refine A7 (ih p dp.1 lp.1 (by exact Aa ‹_› ‹_›) ?_)
     exact A9 ⟨rfl,rfl,ps,lp.2,dp.2,by exact Aa ‹_› ‹_›⟩
   ·intro z20;rcases z20 with⟨r1,r2⟩;intro s' z22;refine DF z22 fun hr z1 uu=>?_;clear z22;subst z1
    cases hr
    exact A9 h
  |_=>exact FI d
theorem WQ {k:PV}{kv:Ac}{stored:List Ac}{Q:Bool→Ad→Prop}(dk:k.data=true)(hk:k.deep≤8)(rk:AP s.heap k kv)
  (hst:∀v∈stored,∃p:PV,p.data=true∧p.deep≤8∧AP s.heap p v)(h:Q false s):wpAny (model prog w) A (searchCouldBeSeen kv stored) Q E s:=by
 refine A7 ?_
 refine Dz _ (fun rest r s'=>s'=s∧r=(none,())∧∀v∈rest,∃p:PV,p.data=true∧p.deep≤8∧AP s.heap p v) _ ?_ ?_ _ _ ⟨rfl,rfl,hst⟩
 ·intro x rest r s' z24;refine DF z24 fun z0 z1 hr=>?_;clear z24;subst z0;subst z1
  refine CP (hr x Ab) fun p dp hp rp=>?_
  have hr':=fun v hv=>hr v (Af _ hv)
  refine wpAny_ite (iteInduction (motive:=fun p=>p) (fun uu=>?_) fun uu=>?_)
  ·exact A9 ⟨rfl,rfl,hr'⟩
  ·refine A7 (Ld 8 k dk rk hk ?_)
   refine A7 (Ld 8 p dp rp hp ?_)
   refine A7 (MN 8 k dk rk hk ?_)
   refine A7 (MN 8 p dp rp hp ?_)
   exact A9 ⟨rfl,rfl,hr'⟩
 ·intro r s' z22;refine DF z22 fun z0 z1 uu=>?_;clear z22;subst z0;subst z1
  exact A9 h
theorem IH:∀(n:Nat) (p:PV) {v:Ac} {s:Ad} {Q:Bool→Ad→Prop},p.data=true→AP s.heap p v→(∀b,Q b s)→wpAny (model prog w) A (hashByValue n v) Q E s:=by
 intro n
 induction n with
 |zero=>
  intro p v s Q d r h
  induction p using Mine.Internal.PV.casesOn with
  |none=>replace r:=AP.n r;subst r;exact A9 (h _)
  |int i=>replace r:=AP.i r;refine AI r fun t z1=>?_;clear r;subst z1;exact A9 (h _)
  |str x=>replace r:=AP.s r;refine AI r fun t z1=>?_;clear r;subst z1;exact A9 (h _)
  |tup vs=>replace r:=AP.t r;refine Cv r fun a xs z2 g l=>?_;clear r;subst z2;exact A9 (h _)
  |_=>exact FI d
 |succ n ih=>
  intro p v s Q d r h
  induction p using Mine.Internal.PV.casesOn with
  |none=>replace r:=AP.n r;subst r;exact A9 (h _)
  |int i=>replace r:=AP.i r;refine AI r fun t z1=>?_;clear r;subst z1;exact A9 (h _)
  |str x=>replace r:=AP.s r;refine AI r fun t z1=>?_;clear r;subst z1;exact A9 (h _)
  |tup vs=>
   replace r:=AP.t r
   refine Cv r fun a xs z2 g l=>?_;clear r;subst z2
   have hT:s.TypeIs (.ref a) "tuple":=⟨_,g,rfl⟩
   refine A7 (EO hT F.slot_tuple_hash.lookup ?_)
   refine A7 (DC g rfl ?_)
   refine A7 ?_
   refine(?_:wpAny _ _ (forIn xs.toArray _ _) _ _ s)
   rw[←GP]
   refine Dz _ (fun rest r s'=>r=(none,())∧s'=s∧∃ps,AG s.heap ps rest∧C9 ps=true) _ ?_ ?_ _ _ ⟨rfl,rfl,vs,by simpa only[CW] using l,d⟩
   ·intro v rest r s' z24;refine Aw z24 fun hr zr=>?_;clear z24;revert zr;refine fun zq=>Aw zq fun z0 zr=>?_;clear zq;subst z0;refine AB zr fun ps lp dp=>?_;clear zr
    induction ps using Az with
    |nil=>exact AF lp
    |cons p ps=>
     replace lp:=AG.c lp
     replace dp:=Ae.mp dp
     refine A7 (ih p dp.1 lp.1 fun b=>?_)
     induction b using AX
     ·refine A9 ?_
      exact A9 (h false)
     ·exact A9 ⟨rfl,rfl,ps,lp.2,dp.2⟩
   ·intro z20;rcases z20 with⟨r1,r2⟩;intro s' z22;refine DF z22 fun hr z1 uu=>?_;clear z22;subst z1
    cases hr
    exact A9 (h true)
  |_=>exact FI d
end
end
section
set_option backward.match.sparseCases true
open SetTable Classical
abbrev Ks (es:Array (Int×Ac))(n:Nat)(t:SetTable):Obj:={cls:= .type "set",data:= .set es n t}
structure SetW (P:Params)(h:Heap)(es:Array (Int×Ac))(t:SetTable)(ws:List PV):Prop where
 ok:TOk t es.size
 rep:AG h ws (es.toList.map (·.2))
 hash:es.toList.map (·.1)=ws.map (Bh P)
 rea:cr t (ws.map (Bh P))
 dat:C9 ws=true
 dee:B_ ws≤7
 nod:ws.Nodup
theorem SetW.len {P:Params}{h:Heap}{es:Array (Int×Ac)}{t:SetTable}{ws:List PV}(S:SetW P h es t ws):ws.length=es.size:=by
 have:=S.rep.len
 simpa using this
theorem SetW.at {P:Params}{h:Heap}{es:Array (Int×Ac)}{t:SetTable}{ws:List PV}(S:SetW P h es t ws){i:Nat}(hi:i<es.size):∃(p:PV) (v:Ac),ws[i]? =some p∧es[i]? =some (Bh P p,v)∧AP h p v∧p∈ws:=by
 have hl:=S.len
 have hi':i<ws.length:=by exact(Al [_,_,_] 0x140502112240502) hi hl
 have e1:ws[i]? =some ws[i]:=Ah hi'
 refine AB (S.rep.get e1) fun v e2 r=>?_
 have e3:es[i]? =some es[i]:=Bn hi
 have e4:es[i].2=v:=by
  rw[Bc] at e2
  simp only[DW,e3,By,Bs] at e2
  exact e2
 have e5:es[i].1=Bh P ws[i]:=by
  have:=congrArg (fun l=>l[i]?) S.hash
  simp only[Bc,DW,e3,e1,By,Bs] at this
  exact this
 exact bu (ws[i]) v e1 (by rw[e3, ←e5, ←e4];rfl) r (CG hi')
section
variable {prog:Program}{w:World}{A:B2}{E:Ac→Ad→Prop}{s:Ad}
theorem ae {α:Type}{x y:Sem α}{Q:α→Ad→Prop}(h:wpAny (model prog w) A y Q E s):wpAny (model prog w) A (if false=true then x else y) Q E s:=h
theorem TR {α:Type}{c:Bool}{x:Sem Bool}{u k:Sem α}{Q:α→Ad→Prop}(seen:∀{Q:Bool→Ad→Prop},Q false s→wpAny (model prog w) A x Q E s)(h:wpAny (model prog w) A k Q E s):
  wpAny (model prog w) A (if(!c)=true then x>>=fun v=>if v=true then u else k else k) Q E s:=by
 induction c using AX with
 |true=>exact h
 |false=>exact A7 (seen h)
theorem Q1 {a:Addr}{es:Array (Int×Ac)}{n:Nat}{t:SetTable}{x:Ac}{hs:Int}{fuel j:Nat}{p:Probe}{stand:Option Probe}{Q:SetFound→Ad→Prop}(g:s.heap.get? a=some (Ks es n t))(ok:TOk t es.size)
  (hst:stand.getD (t.probeStart hs)=p)(hm:t.probe (fun i=>(es[i]?.map (·.1)).getD 0) hs p=some (.empty j none))(h:Q (.free j false) s):wpAny (model prog w) A (setSearchFrom a x hs true (fuel+1) stand) Q E s:=by
 refine A7 (BV g rfl ok.fits ?_)
 dsimp only
 rw[ok.gave,hst]
 refine rwL hm ?_
 exact A9 h
theorem QO {a:Addr}{es:Array (Int×Ac)}{n:Nat}{t:SetTable}{x:Ac}{b:Addr}{hs hv:Int}{c:Bool}{fuel j i:Nat}{p p2:Probe}{stand:Option Probe}{Q:SetFound→Ad→Prop}(g:s.heap.get? a=some (Ks es n t))(ok:TOk t es.size)
  (hst:stand.getD (t.probeStart hs)=p)(hm:t.probe (fun i=>(es[i]?.map (·.1)).getD 0) hs p=some (.candidate j i p2))(hw:es[i]? =some (hv, .ref b))(hsl:t.slot j= .live i)
  (seen:∀{Q:Bool→Ad→Prop},Q false s→wpAny (model prog w) A (searchCouldBeSeen x ((es.filter (·.1 == hs)).toList.map (·.2))) Q E s)
  (eq:∀{Q:Bool→Ad→Prop},Q c s→wpAny (model prog w) A (eqBool (.ref b) x) Q E s)
  (yes:c=true→Q (.there none) s)(no:c=false→wpAny (model prog w) A (setSearchFrom a x hs true fuel (some p2)) Q E s):wpAny (model prog w) A (setSearchFrom a x hs true (fuel+1) stand) Q E s:=by
 refine A7 (BV g rfl ok.fits ?_)
 dsimp only
 rw[ok.gave,hst]
 refine rwL hm ?_
 refine ae (TR seen ?_)
 rewrite[hw]
 refine A7 (Ay (eq ?_))
 refine A7 (BV g rfl ok.fits ?_)
 induction c using AX with
 |true=>exact A9 (yes rfl)
 |false=>
  have sm:t.sameMemory t.moves t.mask=some true:=if_pos (by simp)
  refine ae ?_
  rewrite[sm]
  refine rwL hsl ?_
  dsimp only
  rewrite[if_pos rfl]
  dsimp only
  rewrite[hw]
  exact A7 (wpAny_isSame_ref_self (A7 (A9 (no rfl))))
theorem TS {a:Addr}{es:Array (Int×Ac)}{n:Nat}{t:SetTable}{ws:List PV}{k:PV}{x:Ac}{Q:SetFound→Ad→Prop}(g:s.heap.get? a=some (Ks es n t))(S:SetW w.params s.heap es t ws)
  (tups:∀p∈ws,∃ps,p= .tup ps)(dk:k.data=true)(hk:k.deep≤7)(rk:AP s.heap k x)(hu:A.units+100<cLine)
  (found:k∈ws→Q (.there none) s)
  (free:k∉ws→∀j,j≤t.mask→(∀z,z<es.size→t.place.getD z 0≠j)→RP t.mask (Yg t) (Bh w.params k) j→Q (.free j false) s):
  ∀(d fuel n0:Nat),(∀q,q<n0→∃i,i<es.size∧t.place.getD i 0=sq t.mask (Bh w.params k) q∧ws[i]? ≠some k)→
   t.slot (advs t d (advs t n0 (t.probeStart (Bh w.params k)))).j= .empty→d<fuel→
   ∀stand:Option Probe,stand.getD (t.probeStart (Bh w.params k))=advs t n0 (t.probeStart (Bh w.params k))→wpAny (model prog w) A (setSearchFrom a x (Bh w.params k) true fuel stand) Q E s:=by
 intro d
 induction d using Gd with
 |_ d ih=>
  intro fuel n0 hv hd hf stand hst
  match fuel,hf with
  |fuel+1,hf=>
   have hp:POk t (advs t n0 (t.probeStart (Bh w.params k))):=POk.advs n0 (POk.start _)
   refine AB (Jd S.ok hp) fun k0 hk0 he0=>?_
   obtain ⟨dm,hdm1,hdm2,hdm3⟩:∃dm,dm<10*turns t.mask∧dm≤d∧t.slot (advs t dm (advs t n0 (t.probeStart (Bh w.params k)))).j= .empty:=by
    refine Ap (Nat.le_total k0 d) (fun c=>?_) fun c=>?_
    ·exact⟨k0,hk0,c,he0⟩
    ·exact⟨d,AJ c hk0,Ak _,hd⟩
   refine CP (Mi S.ok (hashAt:=fun i=>(es[i]?.map (·.1)).getD 0) (hs:=Bh w.params k) (10*turns t.mask) dm hp hdm1 hdm3) fun n1 h1 h2 h3=>?_
   have plc:∀{i j:Nat},t.place[i]? =some j→i<es.size∧t.place.getD i 0=j:=fun{i j} e=>by
    have l:i<t.place.size:=(D5.mp e).1
    exact⟨by rw[←S.ok.size];exact l,by simp[AT,e]⟩
   have sqe:∀q,(advs t q (advs t n0 (t.probeStart (Bh w.params k)))).j=sq t.mask (Bh w.params k) (n0+q):=fun q=>by
    rw[←F3 _ _ _ _,Q0 _ _ _,QN _ _]
    rfl
   have hv1:∀q,q<n0+n1→∃i,i<es.size∧t.place.getD i 0=sq t.mask (Bh w.params k) q∧ws[i]? ≠some k:=fun q hq=>by
    by_cases c:q<n0
    ·exact hv q c
    ·refine AB (h2 (q-n0) (by exact(Al [_,_,_] 0x24106505140502221540502) hq c)) fun i e1 e2=>?_
     refine Aw (plc e1) fun l1 l2=>?_
     refine⟨i,l1,by rw[l2,sqe _];rewrite[show n0+(q-n0)=q by exact(Al [_,_] 0x101605150415022) c];rfl,fun z=>e2 ?_⟩
     refine Cv (S.at l1) fun p v w1 w2 uu=>?_
     rw[z] at w1
     replace w1:=Ai w1;subst w1
     refine(?_:(es[i]?.map (·.1)).getD 0=_)
     rw[w2]
     rfl
   focus(revert h3;refine fun zo=>Ap zo (fun z0=>?_) fun z0=>?_;rotate_left;clear zo;refine Rq z0 fun i h3 hpi hsl hha hlt=>?_;clear z0;rotate_right;clear zo;refine Aw z0 fun h3 hem=>?_;clear z0)
   ·have hj:∀z,z<es.size→t.place.getD z 0≠(advs t n1 (advs t n0 (t.probeStart (Bh w.params k)))).j:=fun z hz c=>by
     have bs:=FA S.ok.ris (advs t n1 (advs t n0 (t.probeStart (Bh w.params k)))).j
     have zz:z<t.place.size:=by rw[S.ok.size];exact hz
     have:below t.place (advs t n1 (advs t n0 (t.probeStart (Bh w.params k)))).j=z:=by
      focus(refine Ap (D_ (below t.place (advs t n1 (advs t n0 (t.probeStart (Bh w.params k)))).j) z) (fun l=>?_) fun z0=>?_;rotate_left;rcases z0 with l|l;rotate_right)
      ·have:=bs.2.2 (below t.place (advs t n1 (advs t n0 (t.probeStart (Bh w.params k)))).j) (Ak _) (by exact(Al [_,_,_] 0x14050240502142502) zz l)
       have:=S.ok.ris _ z l zz
       exact(Al [_,_,_,_,_] 0x1012441b50241b3023212) c ‹_› this
      ·exact l
      ·have:=bs.2.1 z l
       exact(Al [_,_,_,_] 0x1013425023212) c this
     unfold HL at hem
     dsimp only at hem
     rw[this,if_pos (by
      have:t.place[z]? =some (t.place.getD z 0):=by simp[Ct,zz]
      rw[this,c]
      simp)] at hem
     cases hem
    have nk:k∉ws:=fun hk'=>by
     refine AI (JZ hk') fun i zr=>?_;refine AI zr fun hi e=>?_;clear zr
     have e':ws[i]? =some k:=by rw[Ah hi,e];rfl
     have hi2:i<es.size:=by rw[←S.len];exact hi
     refine AB (S.rea i (by simpa using hi)) fun N r1 r2=>?_
     have eh:(ws.map (Bh w.params)).getD i 0=Bh w.params k:=by simp[Cd,e']
     rw[eh] at r1 r2
     refine Ap (Cy N (n0+n1)) (fun c=>?_) fun c=>?_
     ·refine CP (hv1 N c) fun i2 l1 l2 l3=>?_
      rw[r1] at l2
      have:i2=i:=by
       focus(refine Ap (D_ i2 i) (fun l=>?_) fun z0=>?_;rotate_left;rcases z0 with l|l;rotate_right)
       ·have:=S.ok.ris i2 i l (by rw[S.ok.size];exact hi2)
        exact(Al [_,_,_,_] 0x1013425023212) l2 this
       ·exact l
       ·have:=S.ok.ris i i2 l (by rw[S.ok.size];exact l1)
        exact(Al [_,_,_,_] 0x1012435023212) l2 this
      subst this
      exact l3 e'
     ·refine Ap (Cy (n0+n1) N) (fun c2=>?_) fun c2=>?_
      ·refine AB (r2 _ c2) fun z z1 z2=>?_
       exact hj z (by rw[←S.ok.size];exact z1) (by rw[z2,sqe _];rfl)
      ·have:N=n0+n1:=by exact(Al [_,_,_] 0x21501215002021502) c c2
       rw[this] at r1
       exact hj i hi2 (by rw[←r1,sqe _];rfl)
    have fr:=free nk _ (by have:=(POk.advs n1 hp).j;exact(Al [_,_,_] 0x100120502) this) hj ⟨n0+n1,(sqe n1).symm,fun q hq=>by
     refine CP (hv1 q hq) fun i l1 l2 uu=>?_
     exact⟨i,by rw[S.ok.size];exact l1,l2⟩⟩
    exact Q1 g S.ok hst h3 fr
   ·refine Aw (plc hpi) fun li lp=>?_
    refine IW (S.at li) fun p v w1 w2 rp mp=>?_
    have dp:p.data=true:=Dx S.dat mp
    have hdp:p.deep≤7:=Aa (Ef mp) S.dee
    refine AI (tups p mp) fun ps z1=>?_;subst z1
    refine Cv (FK rp) fun b xs z2 gb uu=>?_;subst z2
    refine QO (c:=decide (PV.tup ps=k)) g S.ok hst h3 w2 hsl (fun hq=>WQ dk (by exact Aa ‹_› (by decide)) rk (fun v hv=>?_) hq) (fun hq=>HQ dp dk rp rk (by exact(Al [_,_,_] 0x241055071810224642805502) hu hdp) hq) (fun c=>found (of_decide_eq_true c▸mp)) fun c=>?_
    ·simp only[AZ,Array.mem_toList_iff,Array.mem_filter] at hv
     refine AB hv fun e z1 z2=>?_;clear hv;refine Aw z1 fun he uu=>?_;clear z1;subst z2
     refine AI (Jx he) fun i2 zr=>?_;refine AI zr fun hi2 e2=>?_;clear zr
     refine IW (S.at hi2) fun p2 v2 z1 z2 z3 z4=>?_
     rw[Bn hi2,e2] at z2
     have:e=_:=Ai z2
     subst this
     exact⟨p2,Dx S.dat z4,Aa (Ef z4) (by have:=S.dee;exact Aa ‹_› (by decide)),z3⟩
    ·replace c:=of_decide_eq_false c
     refine ih (dm-(n1+1)) (by exact(Al [_,_,_] 0x2441506500415022002) hdm2 hlt) fuel (n0+(n1+1)) (fun q hq=>?_) ?_ (by exact(Al [_,_,_,_] 0x244150650041502300242543502) hf hdm2 hlt) _ ?_
     ·by_cases c2:q<n0+n1
      ·exact hv1 q c2
      ·have:q=n0+n1:=by exact(Al [_,_,_] 0x2150152154050224251540502) hq c2
       subst this
       exact⟨i,li,by rw[lp,sqe _];rfl,fun z=>c (by rw[w1] at z;exact Ai z)⟩
     ·rw[F3 t n0 (n1+1) _, ←F3 t (n1+1) _ _];rewrite[show n1+1+(dm-(n1+1))=dm by exact(Al [_,_] 0x14051640551140502) hlt]
      exact hdm3
     ·rw[F3 t n0 (n1+1) _]
      rfl
end
end
section
open SetTable Classical
structure SetP (P:Params)(h:Heap)(es:Array (Int×Ac))(t:SetTable)(ws:List PV):Prop where
 pre:TPre t es.size
 rep:AG h ws (es.toList.map (·.2))
 hash:es.toList.map (·.1)=ws.map (Bh P)
 rea:cr t (ws.map (Bh P))
theorem SetW.keeps {P:Params}{h h':Heap}{es:Array (Int×Ac)}{t:SetTable}{ws:List PV}(S:SetW P h es t ws)(k:BH h h'):SetW P h' es t ws:=
 ⟨S.ok,S.rep.keeps k,S.hash,S.rea,S.dat,S.dee,S.nod⟩
theorem WR {α:Type}(l:List α)(p:Nat)(x:α)(hp:p≤l.length)(q:Nat):(l.take p++x::l.drop p)[q]? =if q<p then l[q]? else if q=p then some x else l[q-1]? :=by
 have lt:(l.take p).length=p:=by simp;exact(Al [_,_] 0x10c11002) hp
 by_cases c:q<p
 ·rw[if_pos c];rewrite[Ca (by exact(Al [_,_,_] 0x140502405022112) lt c)];rw[HB c];rfl
 ·rw[if_neg c];rewrite[Cu (by exact(Al [_,_,_] 0x100524150222012) lt c)];rw[lt]
  by_cases d:q=p
  ·rw[if_pos d,d];simp
  ·rw[if_neg d]
   obtain ⟨r,rfl⟩:∃r,q=p+1+r:=⟨q-p-1,by exact(Al [_,_] 0x4106641550151012251405022) c d⟩
   rewrite[show p+1+r-p=r+1 by exact(Al [_,_] 0x41501405561)];rw[Cp,KT]
   congr 1
   exact(Al [_,_] 0x41405561051)
theorem SetW.put {P:Params}{h:Heap}{es:Array (Int×Ac)}{t:SetTable}{ws:List PV}(S:SetW P h es t ws){k:PV}{x:Ac}(rk:AP h k x){j:Nat}(hj:j≤t.mask)(hs:∀z,z<es.size→t.place.getD z 0≠j)(r:RP t.mask (Yg t) (Bh P k) j):
  SetP P h (insertAt es (t.put j).2 (Bh P k,x)) (t.put j).1 (ws.take (t.put j).2++k::ws.drop (t.put j).2):=by
 refine Aw (S.ok.put hj hs) fun h1 h2=>?_
 have hl:=S.len
 have e1:(insertAt es (t.put j).2 (Bh P k,x)).toList=es.toList.take (t.put j).2++(Bh P k,x)::es.toList.drop (t.put j).2:=Hz _ _ _
 have b1:=(FA S.ok.ris j).1
 have pe:(t.put j).2=below t.place j:=rfl
 have plc:(t.put j).1.place=insertAt t.place (below t.place j) j:=rfl
 have mk:(t.put j).1.mask=t.mask:=rfl
 have inp:∀y,Yg t y→Yg (t.put j).1 y:=fun y ⟨z,hz,e⟩=>by
  refine⟨if z<below t.place j then z else z+1,?_,?_⟩
  ·rw[plc,DN _ _ _];split<;>(first|exact(Al [_,_] 0x4154050140502) hz|exact(Al [_,_] 0x415440550140502) hz|omega)
  ·rw[plc,Ew b1 _]
   by_cases c:z<below t.place j
   ·rw[if_pos c,if_pos c];exact e
   ·rw[if_neg c];rewrite[if_neg (by exact(Al [_,_] 0x51440550251405022) c),if_neg (by exact(Al [_,_] 0x514051251405022) c)];exact e
 refine⟨?_,?_,?_,fun q hq=>?_⟩
 ·rw[DN _ _ _];exact h1
 ·rw[e1,Bi,B9,HM,Kj]
  refine(S.rep.take _).append ?_
  refine AG.d ?_
  exact⟨rk,S.rep.drop _⟩
 ·rw[e1,Bi,B9,HM,Kj,S.hash,Bi,B9,HM,Kj];rfl
 ·rw[mk]
  have hq':q<ws.length+1:=by simpa [N9 (show(t.put j).2≤ws.length by exact(Al [_,_,_] 0x10021122002) h2 hl),Nat.add_sub_of_le (show(t.put j).2≤ws.length by exact(Al [_,_,_] 0x10021122002) h2 hl)] using(by
   have:=hq
   simp only[Ag,AC,DB,AQ,I8] at this
   exact(Al [_,_,_] 0x41540504216512c540502) this:q<ws.length+1)
  have eg:((ws.take (t.put j).2++k::ws.drop (t.put j).2).map (Bh P)).getD q 0=if q<(t.put j).2 then(ws.map (Bh P)).getD q 0 else if q=(t.put j).2 then Bh P k else(ws.map (Bh P)).getD (q-1) 0:=by
   simp only[Cd,Bc,WR ws _ k (show(t.put j).2≤ws.length by exact(Al [_,_,_] 0x10021122002) h2 hl)]
   split
   ·rfl
   ·split<;>rfl
  rw[eg,plc,Ew b1 _, ←pe]
  by_cases c:q<(t.put j).2
  ·rw[if_pos c,if_pos c]
   exact(S.rea q (by simp;exact(Al [_,_,_,_] 0x1405024050231123202) h2 hl c)).mono fun y uu=>inp y
  ·rw[if_neg c,if_neg c]
   by_cases d:q=(t.put j).2
   ·rw[if_pos d,if_pos d]
    exact r.mono fun y uu=>inp y
   ·rw[if_neg d,if_neg d]
    exact(S.rea (q-1) (by simp;exact(Al [_,_,_] 0x14406505201225240502241540502) hq' c d)).mono fun y uu=>inp y
theorem F4 {α β:Type}(l:List α)(f:α→β)(a:α)(b:β){q:Nat}(h:q<l.length):(l.map f).getD q b=f (l.getD q a):=by simp[Cd,h]
theorem SetP.relaid {P:Params}{h:Heap}{es:Array (Int×Ac)}{t:SetTable}{ws:List PV}(S:SetP P h es t ws){m finger moves:Nat}{led plain:Bool}(hm:m=7∨m=31)(hn:es.size≤m):
  ∃t' order,laid m finger moves led plain (es.map (·.1))=some (t',order)∧order.toList.Perm (Am es.size)∧t'.led=led∧t'.mask=m∧t'.fits es.size=true∧
   SetP P h (order.filterMap (es[·]?)) t' (order.toList.map fun q=>ws.getD q .none)∧(order.filterMap (es[·]?)).size=es.size:=by
 refine Rr (TP hm finger moves led plain (es.map (·.1)) (by simpa using hn)) fun t' order e p o l1 l2 l3=>?_
 have hl:ws.length=es.size:=by have:=S.rep.len;simpa using this
 simp only[Array.size_map] at p o
 have fm:∀l:List Nat,(∀q∈l,q<es.size)→l.filterMap (es[·]?)=l.map fun q=>es.toList.getD q (0, .none):=by
  intro l
  induction l with
  |nil=>intro _;rfl
  |cons q l ih=>
   intro hl
   have hq:=hl q (Ab ..)
   rw[BE,Bn hq]
   dsimp only
   rw[ih fun r hr=>hl r (Af _ hr),B9]
   congr 1
   simp[Cd,hq]
 have lt:∀q∈order.toList,q<es.size:=fun q hq=>by simpa using o.mem_iff.mp hq
 have el:(order.filterMap (es[·]?)).toList=order.toList.map fun q=>es.toList.getD q (0, .none):=by rw[Array.toList_filterMap];exact fm _ lt
 have sz:(order.filterMap (es[·]?)).size=es.size:=by
  rw[←BF,el,Ag _,o.length_eq,AO];rfl
 refine Ic t' order e o l1 l3 p.fits ⟨by rw[sz];exact p,?_,?_,?_⟩ sz
 ·rw[el,AW]
  have:∀l:List Nat,(∀q∈l,q<es.size)→AG h (l.map fun q=>ws.getD q .none) (l.map ((fun x=>x.2)∘fun q=>es.toList.getD q (0, .none))):=by
   intro l
   induction l with
   |nil=>intro _;exact AG.n
   |cons q l ih=>
    intro hl2
    have hq:=hl2 q (Ab ..)
    refine AG.d ⟨?_,ih fun r hr=>hl2 r (Af _ hr)⟩
    have:=S.rep.getD (i:=q) (by exact(Al [_,_,_] 0x140502405022112) hl hq)
    rw[F4 es.toList (·.2) (0, .none) .none (by simpa using hq)] at this
    exact this
  exact this _ lt
 ·rw[el,AW,AW]
  refine AN fun q hq=>?_
  have hq':=lt q hq
  have:=congrArg (fun l=>l.getD q 0) S.hash
  rw[F4 es.toList (·.1) (0, .none) 0 (by simpa using hq'),F4 ws (Bh P) .none 0 (by exact(Al [_,_,_] 0x140502405022112) hl hq')] at this
  exact this
 ·have R:=RH e (by simpa using o)
  rw[AW]
  have:(order.toList.map fun q=>(es.map (·.1)).toList.getD q 0)=order.toList.map (Bh P∘fun q=>ws.getD q .none):=by
   refine AN fun q hq=>?_
   have hq':=lt q hq
   refine(?_:(es.map (·.1)).toList.getD q 0=Bh P (ws.getD q .none))
   rw[Array.toList_map,S.hash];rewrite[F4 ws (Bh P) .none 0 (by exact(Al [_,_,_] 0x140502405022112) hl hq')];rfl
  rw[←this]
  exact R
end
section
open SetTable Classical
def XB (k:PV)(ws:List PV):Prop:=((∃i,k= .int i)∧∀p∈ws,∃i,p= .int i)∨((∃qs,k= .tup qs)∧∀p∈ws,∃ps,p= .tup ps)
theorem Q2:KN (CM 5) -1=31:=by decide+kernel
section
variable {prog:Program}{w:World}{A:B2}{E:Ac→Ad→Prop}{s:Ad}
theorem Q3 {a:Addr}{es:Array (Int×Ac)}{n:Nat}{t:SetTable}{k:Int}{x:Ac}{P:Params}(g:s.heap.get? a=some (Ks es n t))(hf:t.fits es.size=true)(rk:AP s.heap (.int k) x)(hu:A.units+100<cLine):
  ∀(l:List (Int×Ac)) (ws:List PV) (i:Nat) {Q:ScanMet→Ad→Prop},AG s.heap ws (l.map (·.2))→l.map (·.1)=ws.map (Bh P)→(∀p∈ws,∃i,p= .int i)→
   (.int k∈ws→∀j,Q (.found j) s)→(.int k∉ws→Q .absent s)→wpAny (model prog w) A (setScanFrom a x (Bh P (.int k)) true l i) Q E s
 |[],[],i,Q,_,_,_,_,h2=>by unfold setScanFrom;exact A9 (h2 Be)
 |[],_::_,_,_,r,_,_,_,_=>r.elim
 |_::_,[],_,_,r,_,_,_,_=>r.elim
 |(h',y)::rest,p::ws,i,Q,r,hh,hi,h1,h2=>by
  replace r:=AG.c r
  simp only[B9,Gh] at hh
  refine AI (hi p (Ab ..)) fun j z1=>?_;subst z1
  have hi':∀p∈ws,∃i,p= .int i:=fun q m=>hi q (Af _ m)
  unfold setScanFrom
  by_cases c:h'=Bh P (.int k)
  ·rw[if_pos (by simpa using c)]
   refine A7 (DY g rfl hf ?_)
   refine A7 (HQ rfl rfl r.1 rk (by exact(Al [_,_] 0x147055014642805502) hu) ?_)
   by_cases d:PV.int j= .int k
   ·rw[decide_eq_true d]
    simp only[Bool.and_self,if_true]
    exact A9 (h1 (by rw[d];exact Ab ..) _)
   ·rw[decide_eq_false d]
    simp only[OF,BN,if_false]
    refine A7 (DY g rfl hf ?_)
    simp only[bne_self_eq_false,BN,if_false]
    exact Q3 g hf rk hu rest ws (i+1) r.2 hh.2 hi' (fun m=>h1 (Af _ m)) fun m=>h2 fun z=>(Aq.mp z).elim (fun z=>d z.symm) m
  ·rw[if_neg (by simpa using c)]
   refine Q3 g hf rk hu rest ws (i+1) r.2 hh.2 hi' (fun m=>h1 (Af _ m)) fun m=>h2 fun z=>(Aq.mp z).elim (fun z=>c ?_) m
   rw[z]
   exact hh.1
theorem QP {P:Params}{h:Heap}{es:Array (Int×Ac)}{t:SetTable}{ws:List PV}(S:SetW P h es t ws)(hs:Int):∃j,t.freeSlot hs=some (j,false)∧j≤t.mask∧(∀z,z<es.size→t.place.getD z 0≠j)∧RP t.mask (Yg t) hs j:=by
 have hp:POk t (t.probeStart hs):=POk.start _
 refine AB (Jd S.ok hp) fun k0 hk0 he0=>?_
 refine CP (Mi S.ok (hashAt:=fun uu=>hs+1) (hs:=hs) (10*turns t.mask) k0 hp hk0 he0) fun n1 h1 h2 h3=>?_
 have sqe:∀q,(advs t q (t.probeStart hs)).j=sq t.mask hs q:=fun q=>by rw[Q0 _ _ _,QN _ _];rfl
 focus(revert h3;refine fun zo=>Ap zo (fun z0=>?_) fun z0=>?_;rotate_left;clear zo;refine Rq z0 fun i h3 hpi hsl hha hlt=>?_;clear z0;rotate_right;clear zo;refine Aw z0 fun h3 hem=>?_;clear z0)
 ·have hj:∀z,z<es.size→t.place.getD z 0≠(advs t n1 (t.probeStart hs)).j:=fun z hz c=>by
   have bs:=FA S.ok.ris (advs t n1 (t.probeStart hs)).j
   have zz:z<t.place.size:=by rw[S.ok.size];exact hz
   have:below t.place (advs t n1 (t.probeStart hs)).j=z:=by
    focus(refine Ap (D_ (below t.place (advs t n1 (t.probeStart hs)).j) z) (fun l=>?_) fun z0=>?_;rotate_left;rcases z0 with l|l;rotate_right)
    ·have:=bs.2.2 (below t.place (advs t n1 (t.probeStart hs)).j) (Ak _) (by exact(Al [_,_,_] 0x14050240502142502) zz l)
     have:=S.ok.ris _ z l zz
     exact(Al [_,_,_,_,_] 0x1012441b50241b3023212) c ‹_› this
    ·exact l
    ·have:=bs.2.1 z l
     exact(Al [_,_,_,_] 0x1013425023212) c this
   unfold HL at hem
   dsimp only at hem
   rw[this,if_pos (by
    have:t.place[z]? =some (t.place.getD z 0):=by simp[Ct,zz]
    rw[this,c]
    simp)] at hem
   cases hem
  refine⟨(advs t n1 (t.probeStart hs)).j,?_,by have:=(POk.advs n1 hp).j;exact(Al [_,_,_] 0x100120502) this,hj,n1,(sqe n1).symm,fun q hq=>?_⟩
  ·unfold SetTable.freeSlot
   have:t.probe (fun uu=>hs+1) hs (t.probeStart hs)=some (.empty (advs t n1 (t.probeStart hs)).j none):=h3
   rw[this]
   rfl
  ·refine AB (h2 q hq) fun i e1 uu=>?_
   refine⟨i,(D5.mp e1).1,?_⟩
   rw[←sqe _]
   simp[AT,e1]
 ·exact absurd hha (by refine(?_:hs+1≠hs);x_go)
theorem SetP.toW {P:Params}{h:Heap}{es:Array (Int×Ac)}{t:SetTable}{ws:List PV}(S:SetP P h es t ws)(r:es.size*5<t.mask*3)(d:C9 ws=true)(e:B_ ws≤7)(n:ws.Nodup):SetW P h es t ws:=
 ⟨S.pre.ok r,S.rep,S.hash,S.rea,d,e,n⟩
theorem Lp {ws:List PV}(h:∀p∈ws,p.data=true):C9 ws=true:=by
 induction ws with
 |nil=>rfl
 |cons p ws ih=>exact Ae.mpr ⟨h p (Ab ..),ih fun q m=>h q (Af _ m)⟩
theorem Lq {ws:List PV}{n:Nat}(h:∀p∈ws,p.deep≤n):B_ ws≤n:=by
 induction ws with
 |nil=>exact AM _
 |cons p ws ih=>exact Nat.max_le.mpr ⟨h p (Ab ..),ih fun q m=>h q (Af _ m)⟩
def CA (t:SetTable)(b:Bool):SetTable:=if b then t else{t with plain:=false}
theorem MO (t:SetTable)(b:Bool):(CA t b).mask=t.mask∧(CA t b).place=t.place∧(CA t b).dummies=t.dummies∧(CA t b).led=t.led∧(CA t b).tooFull=t.tooFull:=by
 induction b using AX<;>exact⟨rfl,rfl,rfl,rfl,rfl⟩
theorem SetP.off {P:Params}{h:Heap}{es:Array (Int×Ac)}{t:SetTable}{ws:List PV}(S:SetP P h es t ws)(b:Bool):SetP P h es (CA t b) ws:=by
 refine M6 (MO t b) fun e1 e2 e3 uu=>?_
 refine⟨⟨by rw[e2];exact S.pre.size,by rw[e2];exact S.pre.ris,by rw[e1,e2];exact S.pre.le,by rw[e3];exact S.pre.dum,by rw[e1];exact S.pre.mask,by rw[e1];exact S.pre.room⟩,S.rep,S.hash,fun x hx=>?_⟩
 have:=S.rea x hx
 rw[e1,e2]
 refine this.mono fun y uu ⟨z,hz,e⟩=>⟨z,by rw[e2];exact hz,by rw[e2];exact e⟩
def Q4 (P:Params)(h:Heap)(a:Addr)(k:PV)(ws:List PV)(led:Bool)(s:Ad)(C:Ad→Prop):Prop:=
 ∀h' es' n' t' ws',Cm a s.heap h'→h'.get? a=some (Ks es' n' t')→SetW P h es' t' ws'→t'.led=led→(k∈ws→ws'.Perm ws)→(k∉ws→ws'.Perm (k::ws))→C {s with heap:=h'}
theorem NN {h:Heap}{a:Addr}{es es1:Array (Int×Ac)}{n:Nat}{t t1:SetTable}{k:PV}{ws ws1:List PV}{C:Ad→Prop}{P:Params}(g:s.heap.get? a=some (Ks es n t))(S1:SetP P h es1 t1 ws1)(hn:es1.size≤18)
  (pm:ws1.Perm (k::ws))(nk:k∉ws)(nd:ws.Nodup)(dt:C9 ws=true)(dk:k.data=true)(de:B_ ws≤7)(dek:k.deep≤7)(hC:Q4 P h a k ws t1.led s C)(old:es1.size*5<t1.mask*3+5):
  (s.heap.update a (FX es1 t1)).get? a=some (Ks es1 (n+1) t1)∧
  (t1.tooFull=false→C {s with heap:=s.heap.update a (FX es1 t1)})∧
  (t1.tooFull=true→∃t2 order,N7 t1 (es1.map (·.1)) (CM es1.size)=some (t2,order)∧order.toList.Perm (Am es1.size)∧t2.fits es1.size=true∧(order.filterMap (es1[·]?)).size=es1.size∧
   KN (CM es1.size)≤100∧C {s with heap:=(s.heap.update a (FX es1 t1)).update a (FX (order.filterMap (es1[·]?)) t2)}):=by
 have d1:C9 ws1=true:=Lp fun p m=>(Aq.mp (pm.mem_iff.mp m)).elim (fun e=>e▸dk) fun m=>Dx dt m
 have e1:B_ ws1≤7:=Lq fun p m=>(Aq.mp (pm.mem_iff.mp m)).elim (fun e=>e▸dek) fun m=>Aa (Ef m) de
 have n1:ws1.Nodup:=pm.nodup_iff.mpr (BR.mpr ⟨nk,nd⟩)
 have g1:(s.heap.update a (FX es1 t1)).get? a=some (Ks es1 (n+1) t1):=AK _ g rfl
 have tfe:t1.tooFull=decide (t1.mask*3≤es1.size*5):=by
  unfold SetTable.tooFull Ki
  rw[S1.pre.dum,S1.pre.size]
  rfl
 refine⟨g1,fun c=>?_,fun c=>?_⟩
 ·rw[tfe] at c
  have tf:es1.size*5<t1.mask*3:=by simpa using c
  exact hC _ _ _ _ _ (Au ..) g1 (S1.toW tf d1 e1 n1) rfl (fun m=>absurd m nk) fun uu=>pm
 ·rw[tfe] at c
  have tf:t1.mask*3≤es1.size*5:=by simpa using c
  have m7:t1.mask=7∧es1.size=5:=by
   rcases S1.pre.mask with e|e
   ·exact⟨e,by exact(Al [_,_] 0x51801718112051a131a02518131a54051a502) old tf e⟩
   ·exact(Al [_,_] 0x518117180131f28012151a031a021228102) hn tf e
  refine L9 (S1.relaid (m:=31) (finger:=t1.finger) (moves:=t1.movedTo 31) (led:=t1.led) (plain:=t1.plain) (.inr rfl) (by exact Aa ‹_› (by decide))) fun t' order' q1 q2 q3 q4 q5 q6 q7=>?_
  have this:N7 t1 (es1.map (·.1)) (CM es1.size)=some (t',order'):=by
   rw[m7.2,Q2]
   exact q1
  have pm2:(order'.toList.map fun q=>ws1.getD q .none).Perm ws1:=by
   have:=q2.map fun q=>ws1.getD q PV.none
   have hl:ws1.length=es1.size:=by have:=S1.rep.len;simpa using this
   rw[←hl,Gy] at this
   exact this
  have g2:((s.heap.update a (FX es1 t1)).update a (FX (order'.filterMap (es1[·]?)) t')).get? a=some (Ks (order'.filterMap (es1[·]?)) (n+1+1) t'):=AK _ g1 rfl
  refine Uy t' order' this q2 q5 q7 (by rw[m7.2];decide+kernel) ?_
  refine hC _ _ _ _ _ ((Au ..).trans (Au ..)) g2 (q6.toW (by rw[q7,q4];exact(Al [_,_] 0x3181f294051a50518017181132) m7) ?_ ?_ (pm2.nodup_iff.mpr n1)) q3 (fun m=>absurd m nk) fun uu=>pm2.trans pm
  ·exact Lp fun p m=>Dx d1 (pm2.mem_iff.mp m)
  ·exact Lq fun p m=>Aa (Ef (pm2.mem_iff.mp m)) e1
theorem Yh {h:Heap}{a:Addr}{es:Array (Int×Ac)}{n:Nat}{t:SetTable}{ws:List PV}{k:PV}{x:Ac}{C:Ad→Prop}(kp:BH h s.heap)(g:s.heap.get? a=some (Ks es n t))(S:SetW w.params h es t ws)(hn:es.size≤17)
  (hg:XB k ws)(dk:k.data=true)(dek:k.deep≤7)(rk:AP h k x)(hu:A.units+100<cLine)(hC:Q4 w.params h a k ws t.led s C):
  wpAny (model prog w) A (setAddHashed a x (Bh w.params k)) (fun uu s'=>C s') E s:=by
 have S':=S.keeps kp
 have rk':=AP.keeps kp _ rk
 have hl:=S.len
 have same:k∈ws→C s:=fun m=>hC s.heap es n t ws (LU a s.heap) g S rfl (fun uu=>Cx _) fun nm=>absurd m nm
 have put:k∉ws→∀j,j≤t.mask→(∀z,z<es.size→t.place.getD z 0≠j)→RP t.mask (Yg t) (Bh w.params k) j→∀b,
   (∃P1:SetP w.params h (insertAt es (t.put j).2 (Bh w.params k,x)) (CA (t.put j).1 b) (ws.take (t.put j).2++k::ws.drop (t.put j).2),True)∧(insertAt es (t.put j).2 (Bh w.params k,x)).size=es.size+1∧
   (ws.take (t.put j).2++k::ws.drop (t.put j).2).Perm (k::ws)∧Q4 w.params h a k ws (CA (t.put j).1 b).led s C∧(insertAt es (t.put j).2 (Bh w.params k,x)).size*5<(CA (t.put j).1 b).mask*3+5:=fun nk j h1 h2 h3 b=>by
  refine Eb (MO (t.put j).1 b) fun e1 e2 e3 e4 e5=>?_
  refine⟨⟨(S.put rk h1 h2 h3).off b,trivial⟩,DN ..,?_,by rw[e4];exact hC,?_⟩
  ·exact List.perm_middle.trans (Ea k (by rw[List.take_append_drop _ _];rfl))
  ·rw[DN _ _ _,e1]
   have:=S.ok.room
   refine(?_:_<t.mask*3+5)
   exact(Al [_,_] 0x518131a5440551a50131a4051a502) this
 refine Ay (A7 (BV g rfl S.ok.fits ?_))
 dsimp only
 focus(revert hg;refine fun zo=>Ap zo (fun z0=>?_) fun z0=>?_;rotate_left;clear zo;revert z0;refine fun zq=>Aw zq fun z0 ht=>?_;clear zq;refine AI z0 fun qs z1=>?_;clear z0;subst z1;rotate_right;clear zo;revert z0;refine fun zq=>Aw zq fun z0 hi=>?_;clear zq;refine AI z0 fun i z1=>?_;clear z0;subst z1)
 ·refine AI (Gp rk) fun tk z1=>?_;subst z1
  have bs:byScan (.int i tk) es=true:=by
   refine Ae.mpr ⟨decide_eq_true (by unfold scanBound;exact AJ ‹_› (by decide)),Array.all_eq_true_iff_forall_mem.mpr fun e he=>?_⟩
   refine AI (Jx he) fun q zr=>?_;refine AI zr fun hq z1=>?_;clear zr;subst z1
   refine IW (S.at hq) fun p v w1 w2 w3 w4=>?_
   rw[Bn hq] at w2
   rw[Ai w2]
   refine AI (hi p w4) fun j z1=>?_;subst z1
   refine AI (Gp w3) fun t' z1=>?_;subst z1
   rfl
  rw[bs]
  refine TG rfl ?_
  refine A7 (A7 (Cs ?_))
  refine A7 (m:=setScan a (.int i tk) (Bh w.params (.int i)) true es) ?_
  refine(?_:wpAny _ _ (setScanFrom a (.int i tk) (Bh w.params (.int i)) true es.toList 0) _ _ _)
  refine Q3 (P:=w.params) g S.ok.fits rk' hu es.toList ws 0 S'.rep S.hash hi (fun m j=>?_) fun nk=>?_
  ·exact A9 (A9 (same m))
  ·dsimp only
   refine L6 (QP S (Bh w.params (.int i))) fun j f1 f2 f3 f4=>?_
   have hL:layNew t es (Bh w.params (.int i)) (.int i tk)=(insertAt es (t.put j).2 (Bh w.params (.int i), .int i tk),(t.put j).1,false,false):=by
    unfold layNew
    rw[f1]
    dsimp only
    have fi:(t.put j).1.fits (insertAt es (t.put j).2 (Bh w.params (.int i), .int i tk)).size=true:=(S.put rk f2 f3 f4).pre.fits
    unfold SetTable.orStandIn
    rw[if_pos fi,fi]
    rfl
   rw[hL]
   dsimp only
   refine A7 (A9 ?_)
   have fin:∀b:Bool,wpAny (model prog w) A (do
     storeSet a (insertAt es (t.put j).2 (Bh w.params (.int i), .int i tk)) (CA (t.put j).1 b)
     if(!false&&(CA (t.put j).1 b).tooFull)=true then do
       (match(relayAll (CA (t.put j).1 b) (insertAt es (t.put j).2 (Bh w.params (.int i), .int i tk)) (CM (insertAt es (t.put j).2 (Bh w.params (.int i), .int i tk)).size)).2.2 with|true=>rule "set.scan.the-table-gave-way"|false=>pure ())
       storeSet a (relayAll (CA (t.put j).1 b) (insertAt es (t.put j).2 (Bh w.params (.int i), .int i tk)) (CM (insertAt es (t.put j).2 (Bh w.params (.int i), .int i tk)).size)).1 (relayAll (CA (t.put j).1 b) (insertAt es (t.put j).2 (Bh w.params (.int i), .int i tk)) (CM (insertAt es (t.put j).2 (Bh w.params (.int i), .int i tk)).size)).2.1
       pure (some true)
      else pure (some true)) (fun r s'=>wpAny (model prog w) A (match r with|some added=>pure added|none=>setAddHashedIn a (.int i tk) (Bh w.params (.int i)) 99999) (fun uu s'=>C s') E s') E s:=fun b=>by
    refine Eb (put nk j f2 f3 f4 b) fun z0 sz pm hC' old=>?_;refine AI z0 fun P1 uu=>?_;clear z0
    refine DF (NN g P1 (by exact(Al [_,_] 0x1228004150121128102) hn sz) pm nk S.nod S.dat dk S.dee dek hC' old) fun g1 ta tb=>?_
    generalize insertAt es (t.put j).2 (Bh w.params (.int i), .int i tk)=es1 at*
    generalize CA (t.put j).1 b=t1 at*
    refine A7 (Fg g rfl ?_ (by rw[AV];exact(Al [_,_] 0x100000078004150121128102) hn sz))
    cases c:t1.tooFull
    ·refine IY AD ?_
     exact A9 (A9 (ta c))
    ·refine TG rfl ?_
     refine Rr (tb c) fun t2 order r1 r2 r3 r4 r5 r6=>?_
     have hR:relayAll t1 es1 (CM es1.size)=(order.filterMap (es1[·]?),t2,false):=by
      unfold relayAll
      rw[r1]
      dsimp only
      rewrite[if_pos];rfl
      rw[r4,r3,Bool.and_true _]
      exact List.isPerm_iff.mpr r2
     rw[hR]
     dsimp only
     refine A7 (A9 ?_)
     exact A7 (Fg g1 rfl (A9 (A9 r6)) (by rw[r4,AV];exact(Al [_,_] 0x100000078004150121128102) hn sz))
   refine wpAny_ite_split (fun uu=>?_) fun uu=>?_
   ·refine A7 (IH 8 (.int i) rfl rk' fun b=>?_)
    exact fin b
   ·refine A7 (A9 ?_)
    exact fin true
 ·refine Cv (FK rk) fun b xs z2 gb uu=>?_;subst z2
  have bs:byScan (.ref b) es=false:=rfl
  rw[bs]
  refine IY AD ?_
  have hp:POk t (t.probeStart (Bh w.params (.tup qs))):=POk.start _
  refine AB (Jd S.ok hp) fun k0 hk0 he0=>?_
  refine A7 ?_
  refine TS g S' ht dk dek rk' hu (fun m=>?_) (fun nk j h1 h2 h3=>?_) k0 100000 0 (fun q hq=>absurd hq (Bj _)) he0 ?_ none rfl
  ·exact A9 (same m)
  ·dsimp only
   refine A7 (BV g rfl S.ok.fits ?_)
   dsimp only
   have fin:∀c:Bool,wpAny (model prog w) A (do
     storeSet a (insertAt es (t.put j).2 (Bh w.params (.tup qs), .ref b)) (CA (t.put j).1 c)
     if(!false&&(CA (t.put j).1 c).tooFull)=true then do
      setRelay a (CM (es.size+1))
      pure true
     else pure true) (fun uu s'=>C s') E s:=fun c=>by
    refine Eb (put nk j h1 h2 h3 c) fun z0 sz pm hC' old=>?_;refine AI z0 fun P1 uu=>?_;clear z0
    refine DF (NN g P1 (by exact(Al [_,_] 0x1228004150121128102) hn sz) pm nk S.nod S.dat dk S.dee dek hC' old) fun g1 ta tb=>?_
    rw[←sz]
    generalize insertAt es (t.put j).2 (Bh w.params (.tup qs), .ref b)=es1 at*
    generalize CA (t.put j).1 c=t1 at*
    refine A7 (Fg g rfl ?_ (by rw[AV];exact(Al [_,_] 0x100000078004150121128102) hn sz))
    cases c:t1.tooFull
    ·refine IY AD ?_
     exact A9 (ta c)
    ·refine TG rfl ?_
     refine Rr (tb c) fun t2 order r1 r2 r3 r4 r5 r6=>?_
     refine A7 (A7 (BV g1 rfl P1.pre.fits ?_))
     dsimp only
     rewrite[if_neg (by rw[AV];exact(Al [_] 0x5041000000785026428002) r5)]
     rw[r1]
     refine A7 (Ek (a:=(order.filterMap (es1[·]?),t2)) ?_ ?_)
     ·refine(?_:(if((order.filterMap (es1[·]?)).size != es1.size)=true then _ else _)=_)
      rw[if_neg (by rw[r4];simp)];rfl
     ·exact Fg g1 rfl (A9 r6) (by rw[r4,AV];exact(Al [_,_] 0x100000078004150121128102) hn sz)
   refine wpAny_ite_split (fun uu=>?_) fun uu=>?_
   ·refine A7 (IH 8 (.tup qs) dk rk' fun c=>?_)
    exact fin c
   ·refine A7 (A9 ?_)
    exact fin true
  ·have:=S.ok.mask
   unfold turns at hk0
   exact(Al [_,_] 0x186a05840501f28117181142f1815a1940502) hk0 this
end
end
section
open SetTable Classical
def QQ (P:Params)(t:SetTable):Prop:=P.followText "set-order"=true∨t.led=true
def SW (P:Params)(h:Heap)(S:Addr)(seen:List PV)(s:Ad):Prop:=
 ∃es n t ws,s.heap.get? S=some (Ks es n t)∧SetW P h es t ws∧QQ P t∧∀x,x∈ws↔x∈seen
section
variable {prog:Program}{w:World}{A:B2}{R:Result→Ad→Prop}{I:Addr}{fp wr:List Addr}{G:Array GenState→Array GenState→Prop}{items:List PV}{h:Heap}{St:Nat→Ad→Prop}
theorem Mj {ws l:List PV}(n:ws.Nodup)(h:∀x,x∈ws→x∈l):ws.length≤l.length:=n.length_le_of_subset fun x m=>h x m
theorem Va (W:WalksS prog w A.in1 I fp wr G items.length (fun i v=>∃p,items[i]? =some p∧AP h p v) St)(S:Addr)(hSf:S∉fp)(hS:h.get? S=none)(hwr:∀b∈wr,h.get? b=none)
  (hb:items.length≤18)(hd:C9 items=true)(hdp:B_ items≤7)(ha:SL items)(hu:A.units+200<cLine):
  ∀(k i:Nat) (s:Ad),items.length-i=k→i≤items.length→St i s→(∀b o,h.get? b=some o→s.heap.get? b=some o)→SW w.params h S (items.take i) s→
   (∀s',Moved (S::wr) G s s'→SW w.params h S items s'→R (.ok (.ret .none)) s')→codeAny (model prog w) A (.builtin "set.update.loop" ⟨[.ref S, .ref I],[]⟩) R s:=by
 have hSw:S∉wr:=fun h=>hSf (W.sub _ h)
 have hsub:∀b∈wr,b∈S::wr:=fun b hb=>Af _ hb
 have kw:∀s s':Ad,(∀b o,h.get? b=some o→s.heap.get? b=some o)→Moved wr G s s'→∀b o,h.get? b=some o→s'.heap.get? b=some o:=fun s s' k m b o e=>
  m.heap b o (fun hm=>by rw[hwr b hm] at e;exact CC e) (k b o e)
 intro k
 induction k with
 |zero=>
  intro i s hk hi hst kp hS' hR
  have hin:i=items.length:=by exact(Al [_,_] 0x1011002701612) hk hi
  subst hin
  refine BZ Er ?_
  rw[Cr CV _]
  refine(?_:wpAny _ A.in1 (pyNext (.ref I)>>=_) _ _ s)
  refine A7 (W.done s _ _ hst fun s' hm=>?_)
  refine(?_:wpAny _ A.in1 (ret Bl) _ _ s')
  rw[FP] at hS'
  refine Tr hS' fun es n t ws g r=>?_;clear hS'
  exact A9 (hR s' (hm.mono hsub) ⟨es,n,t,ws,hm.heap S _ hSw g,r⟩)
 |succ k ih=>
  intro i s hk hi hst kp hS' hR
  have hlt:i<items.length:=by exact(Al [_,_,_] 0x1405042501612) hk
  refine BZ Er ?_
  rw[Cr CV _]
  refine(?_:wpAny _ A.in1 (pyNext (.ref I)>>=_) _ _ s)
  refine A7 (W.item i s _ _ hlt hst fun v s' hP hst' hm=>?_)
  refine AB hP fun p ep rp=>?_;clear hP
  have kp':=kw _ _ kp hm
  refine Zo hS' fun es n t ws g Sw hled hmem=>?_;clear hS'
  have g':=hm.heap S _ hSw g
  have mp:p∈items:=Cq ep
  have dp:p.data=true:=Dx hd mp
  have hdeep:p.deep≤7:=Aa (Ef mp) hdp
  refine(?_:wpAny _ A.in1 (holding [v] (setAdd S v)>>=_) _ _ s')
  refine A7 (Ay ?_)
  unfold setAdd
  refine Ay ?_
  refine A7 (wpAny_with_toks (n:=s'.toks) (Ak _) (Lc dp (AP.keeps kp' _ rp) (by refine(?_:A.units+1+p.deep+1<cLine);exact(Al [_,_,_] 0x2441405555071810224c82805502) hu hdeep) fun tk (htk:s'.toks≤tk)=>?_))
  have sz:es.size≤17:=by
   have h1:=Mj Sw.nod fun x m=>(hmem x).mp m
   rw[Sw.len,DB] at h1
   exact(Al [_,_,_] 0x11280012c0021425021228102) hb hlt h1
  have hg:XB p ws:=ha.imp (fun q=>⟨q p mp,fun x m=>q x (G2 ((hmem x).mp m))⟩) fun q=>⟨q p mp,fun x m=>q x (G2 ((hmem x).mp m))⟩
  refine Dc (Yh (s:={s' with toks:=tk}) (h:=h) kp' g' Sw sz hg dp hdeep rp (by refine(?_:A.units+1+100<cLine);exact(Al [_,_] 0x14642840555014c82805502) hu) (C:=fun s₂=>∃h',s₂={s' with heap:=h',toks:=tk}∧Cm S s'.heap h'∧SW w.params h S (items.take (i+1)) s₂) ?_) (fun b s₂ h₂=>?_) fun uu uu e=>e
  ·intro h' es' n' t' ws' sb gg Sw' hl h1 h2
   refine⟨h',rfl,sb,es',n',t',ws',gg,Sw',?_,fun x=>?_⟩
   ·unfold QQ at hled ⊢
    rw[hl]
    exact hled
   ·rw[Fk,ep]
    simp only[KQ,B6,Ao, ←hmem]
    by_cases c:p∈ws
    ·rewrite[(h1 c).mem_iff]
     exact⟨.inl,fun z=>z.elim id fun z=>z▸c⟩
    ·rewrite[(h2 c).mem_iff,Aq]
     exact⟨fun z=>z.symm,fun z=>z.symm⟩
  ·refine CP h₂ fun h' z1 sb Sn=>?_;clear h₂;subst z1
   refine A9 ⟨EF CV _,ih (i+1) _ (by exact(Al [_,_,_] 0x241506142510612) hk) hlt (W.frame _ s' _ _ hst' htk fun b hb o e=>?_) (fun b o e=>?_) Sn fun s'' hm'' hS''=>?_⟩
   ·rewrite[sb.2 b (fun h:b=S=>hSf (by rw[←h];exact hb))];exact e
   ·exact(sb.2 b (fun q=>by rw[q,hS] at e;exact CC e)).trans (kp' b o e)
   ·refine hR s'' (Moved.trans W.gtrans ((hm.mono hsub).then_heap htk fun b o hb e=>?_) hm'') hS''
    rewrite[sb.2 b (fun h:b=S=>hb (by rw[h];exact Ab))];exact e
end
section
variable {X:Ctx}{h:Heap}{H:AH}{s:Ad}{A:B2}{E:Ac→Ad→Prop}{d:Nat}{Q:PV→AH→Prop}{post:Ac→Ad→Prop}
theorem Vb {prog:Program}{w:World}(a:Ac){Q₁:Ac→Ad→Prop}
  (h:Q₁ (.ref s.heap.objs.size) {s with heap:=s.heap.push {cls:= .type "set",dict:=none,data:= .set #[] 0 (.fresh 0 0 (!w.params.followText "set-order"))}}):
  codeAny (model prog w) A (.call (.builtin "set.__new__") ⟨[.type "set",a],[]⟩) (wants Q₁ E) s:=by
 refine IP ?_
 refine(?_:wpAny _ A.in1 (do checkBuiltinCall "set.__new__" ⟨[.type "set",a],[]⟩;again (.builtin "set.__new__" ⟨[.type "set",a],[]⟩)) _ _ s)
 refine A7 (Ek (PySem.F.newCall_set_1 a) (A9 ⟨EF Nh _,BZ F.entry_set_new ?_⟩))
 rw[Cr Nh _]
 unfold Builtin.«set.__new__» OB
 have hsub:=sub_set_self
 rcases s with⟨hp,g,d,tk,os⟩
 wp_walk
 refine D3 (A9 ?_)
 refine A7 (wpAny_alloc (A9 ?_))
 exact A9 h
set_option maxHeartbeats 3200000 in
theorem af (x:X.In h)(O:Own X h H s){l:Addr}{vs:List PV}(e:H l=some (.list vs))(hz:vs.length≤18)(hd:C9 vs=true)(hdp:B_ vs≤7)(ha:SL vs)(hA:A.handled=X.exc.map .ref)(hu:A.units+400<cLine)(P:EG X h Q post)
  (t:∀ws:List PV,ws.Nodup→(∀x,x∈ws↔x∈vs)→∀c,H c=none→Q (.loc c) (H.set c (.set ws))):wpAny (model X.prog X.w) A (call (.type "set") [.ref l]) post E s:=by
 rcases DK.mro with⟨c,tl,hmro⟩
 have hmade:=DK.made
 have hsub:=DK.sub
 have O1:=O.push {cls:= .type "set",dict:=none,data:= .set #[] 0 (.fresh 0 0 (!X.w.params.followText "set-order"))}
 refine IM (IP ?_)
 refine(?_:wpAny _ _ (callAny (.type "set") _) _ _ _)
 refine A9 ⟨CE _ (by decide+kernel),BZ F.entry_type_call ?_⟩
 rw[Around.under_plain (weight_type_call_type "set" [.ref l] []) rfl]
 have h1:=DK.notType
 have h2:=DK.canCreate
 have hct:=PySem.F.typeCall_set_1 (.ref l)
 repeat(any_goals(first|assumption|wp_step))
 refine LY (Vb (.ref l) (E:=E) (Q₁:=fun obj s₁=>obj= .ref s.heap.objs.size∧s₁={s with heap:=s.heap.push {cls:= .type "set",dict:=none,data:= .set #[] 0 (.fresh 0 0 (!X.w.params.followText "set-order"))}}) ⟨rfl,rfl⟩) fun r s₁ hr=>?_
 cases r with
 |error e=>exact hr
 |ok fl=>
  cases fl with
  |ret obj=>
   refine Aw hr fun z0 z1=>?_;clear hr;subst z0;subst z1
   have hS:(s.heap.push {cls:= .type "set",dict:=none,data:= .set #[] 0 (.fresh 0 0 (!X.w.params.followText "set-order"))}).get? s.heap.objs.size=some {cls:= .type "set",dict:=none,data:= .set #[] 0 (.fresh 0 0 (!X.w.params.followText "set-order"))}:=Ar _ rfl
   have hT:HK {s with heap:=s.heap.push {cls:= .type "set",dict:=none,data:= .set #[] 0 (.fresh 0 0 (!X.w.params.followText "set-order"))}} (.ref s.heap.objs.size) "set":=⟨_,hS,rfl⟩
   have hli:=DK.init.lookup
   have hbi:=DK.init.bind (.ref s.heap.objs.size)
   repeat(any_goals(first|assumption|wp_step))
   refine LY (codeAny_call_builtin (R:=wants (fun r s₂=>r= .none∧s₂.gens=#[]∧s₂.os=X.os∧SW X.w.params h s.heap.objs.size vs s₂∧
     (∀b o,b<s.heap.objs.size→s.heap.get? b=some o→s₂.heap.get? b=some o)) E) DK.init.plain F.entry_set_init (PySem.check_set_init_1 hT ?_)) fun r₂ s₂ hr₂=>?_
   ·refine BT (O1.isList e) fun xs nl hol rr=>?_
    have hsls:=PySem.F.sub_list_set
    have hslf:=PySem.F.sub_list_frozenset
    have hne:(E_ "list" == E_ "dict")=false:=by decide
    have hfS:h.get? s.heap.objs.size=none:=by
     cases z:h.get? s.heap.objs.size with
     |none=>rfl
     |some y=>exact absurd (Ax (O.keep _ _ z)) (BO _)
    unfold Builtin.«set.__init__» noKeywords N5
    generalize hPI:pyIter=PI
    wp_walk
    subst hPI
    refine V2 (v:= .ref l) x O1 [s.heap.objs.size] (fun b hb=>by simp only[Ao] at hb;subst hb;exact⟨hfS,O.fresh,by refine(?_:_<(s.heap.push _).objs.size);rw[B3 _ _];exact Bx _⟩) (p:= .loc l) (K:=fun ok items=>items=vs) (by refine AP.l' ?_;rfl) ?_ ?hh fun I s₂ items St ok hK W st kp hI HI hI2 hI3 uu own=>?_
    case hh=>exact hA
    ·refine(?_:Ni (H _) _ _)
     rw[e]
     exact⟨by exact Aa ‹_› (by decide),rfl⟩
    subst hK
    refine A7 (Fm ?_)
    have hIS:I≠s.heap.objs.size:=fun q=>by
     rw[q,show(s.heap.push _).objs.size=_ from B3 ..] at hI2
     exact BO _ hI2
    refine Va (h:=h) (W _ ?hW) s.heap.objs.size (by simp) hfS (fun b hb=>by simp only[Ao] at hb;subst hb;exact hI) hz hd hdp ha ?hu (items.length-0) 0 s₂ rfl (AM _) st (fun b o e=>kp b o (O1.keep b o e)) ?_ fun s' m hS'=>?_
    case hW=>exact hA
    case hu=>refine(?_:A.units+1+1+200<cLine);exact(Al [_,_] 0x14c82844055550141903805502) hu
    ·refine⟨#[],0,_,[],kp _ _ hS,⟨⟨rfl,fun a b uu hb=>absurd hb (by exact Bj _),fun k hk=>absurd hk (Bj _),rfl, .inl rfl,by refine(?_:0*5<7*3);decide⟩,by exact trivial,rfl,fun x hx=>absurd hx (Bj _),rfl,by exact AM _,CN⟩,?_,fun x=>by simp⟩
     unfold QQ SetTable.fresh
     cases X.w.params.followText "set-order"<;>simp
    ·have own':=own s' (fun b ob nb e=>m.heap b ob (by simp only[Aq,Be,or_false,not_or] at nb ⊢;exact⟨nb.2,nb.1⟩) e) m.gens m.os
     refine(?_:wpAny _ _ _ _ _ _)
     refine A9 ?_
     refine(?_:wpAny _ _ (ret Bl) _ _ _)
     refine A9 ⟨rfl,own'.gens,own'.os,hS',fun b o hb e=>?_⟩
     exact m.heap b o (by
      simp only[Aq,Be,or_false,not_or]
      refine⟨BL hb,fun q=>?_⟩
      rw[q] at hb
      rw[show(s.heap.push _).objs.size=_ from B3 ..] at hI2
      exact absurd (Bt hb (BM _)) (Dv.mpr hI2)) (kp _ _ (Aj _ e))
   ·cases r₂ with
    |error e=>exact hr₂
    |ok fl₂=>
     cases fl₂ with
     |ret r=>
      refine Eb hr₂ fun z0 eg eo hS' hk'=>?_;clear hr₂;subst z0
      repeat(any_goals(first|assumption|wp_step))
      refine Zo hS' fun es n t' ws g Sw hled hmem=>?_;clear hS'
      have hfS:h.get? s.heap.objs.size=none:=by
       cases z:h.get? s.heap.objs.size with
       |none=>rfl
       |some y=>exact absurd (Ax (O.keep _ _ z)) (BO _)
      have O2:Own X h (H.set s.heap.objs.size (.set ws)) s₂:=by
       refine⟨fun b o e=>hk' b o (Ax (O.keep _ _ e)) (O.keep _ _ e),fun a po e=>?_,eg,eo,?_,fun a po e=>?_⟩
       ·by_cases q:a=s.heap.objs.size
        ·subst q
         rw[AH.set_self] at e
         replace e:=Ai e;subst e
         exact⟨hfS,_,g,es,n,t',rfl,Sw.ok.fits,Sw.ok.ris,hled,ws,Cx _,Sw.rep⟩
        ·rw[AH.set_ne q] at e
         refine Aw (O.cell a po e) fun n' zr=>?_;refine AB zr fun o' g' r'=>?_;clear zr
         exact⟨n',o',hk' a o' (Ax g') g',r'⟩
       ·rcases x.lo with⟨a,oa,la,ga⟩
        exact Aa la (AU (Ax (hk' a oa (Ax (O.keep _ _ ga)) (O.keep _ _ ga))))
       ·by_cases q:a=s.heap.objs.size
        ·rw[q];exact O.lo
        ·rw[AH.set_ne q] at e;exact O.hi a po e
      exact P.here O2 (by refine AP.l' ?_;rfl) (t ws Sw.nod hmem _ O.fresh)
     |next=>exact AF hr₂
     |brk=>exact AF hr₂
     |cont=>exact AF hr₂
  |next=>exact AF hr
  |brk=>exact AF hr
  |cont=>exact AF hr
end
end
section
open SetTable Classical
theorem NO:entryFor table "set.__iter__"=some Builtin.«frozenset.__iter__»:=
 entryFor_alias (id':="frozenset.__iter__") (by kernel_rfl) rfl (by decide+kernel) (by kernel_rfl)
theorem Gz:Manifest.owners.lookup (String.ofList ['r','o','t','a','r','e','t','i','_','t','e','s'].reverse)=some Manifest.sig_set_iterator:=by kernel_rfl
theorem C8:Slot "set_iterator" "__next__" "set_iterator.__next__":=
 .of (owner:="set_iterator") (n:="__next__") (by rw[typeLookup_type _ _,J1];kernel_rfl) (by decide+kernel) (by decide+kernel) (by decide+kernel)
  (by first|exact .inl (by decide+kernel)|exact .inr (by decide+kernel)) (by rw[isSubtype_type _ _];kernel_rfl)
theorem HU:entryFor table "set_iterator.__next__"=some Builtin.«set_iterator.__next__»:=I5 (by kernel_rfl)
theorem Hs (a:Ac):argsOk "set_iterator.__next__" ⟨[a],[]⟩:=by
 unfold argsOk;rw[signature?_of (id:="set_iterator.__next__") (n:=['_','_','t','x','e','n','_','_']) (o:=['r','o','t','a','r','e','t','i','_','t','e','s']) (by kernel_rfl) Gz];kernel_rfl
theorem F5:Slot "set_iterator" "__iter__" "set_iterator.__iter__":=
 .of (owner:="set_iterator") (n:="__iter__") (by rw[typeLookup_type _ _,J1];kernel_rfl) (by decide+kernel) (by decide+kernel) (by decide+kernel)
  (by first|exact .inl (by decide+kernel)|exact .inr (by decide+kernel)) (by rw[isSubtype_type _ _];kernel_rfl)
theorem Kt {α:Type}:∀(l:List α) (i:Nat) (h:i<l.length),(l[i]::l.eraseIdx i).Perm l
 |x::l,0,_=>Cx _
 |x::l,i+1,h=>(GT ..).trans (Ea x (Kt l i (by simpa using h)))
theorem Lr {α:Type}(next:Nat→Nat):∀(fuel k:Nat) (left:List α) (out:Array α),left.length≤fuel→(LX next fuel k left out).toList.Perm (out.toList++left)
 |0,k,left,out,h=>by
  have:left=[]:=CJ (by exact(Al [_] 0x7017002) h)
  subst this
  exact(Di _).symm▸Cx _
 |fuel+1,k,left,out,h=>by
  have u:LX next (fuel+1) k left out=OM out (fun x=>LX next fuel (k+1) (left.eraseIdx (next k % left.length)) (out.push x)) left[next k % left.length]? :=by kernel_rfl
  rw[u]
  cases c:left[next k % left.length]? with
  |none=>
   have:left=[]:=by
    refine CJ (Nat.eq_zero_of_not_pos fun hp=>?_)
    have:=El (next k) hp
    rw[Ah this] at c
    exact HJ c
   subst this
   simp
  |some x=>
   have hl:next k % left.length<left.length:=(A_.mp c).1
   refine(Lr next fuel (k+1) (left.eraseIdx (next k % left.length)) (out.push x) (by rw[Jt,if_pos hl];exact(Al [_,_] 0x14060415002) h)).trans ?_
   rw[Array.toList_push,E0 _ _ _]
   refine List.Perm.append_left _ ?_
   have e:left[next k % left.length]=x:=(A_.mp c).2
   rw[←e]
   exact Kt _ _ hl
theorem Jf {α:Type}(next:Nat→Nat)(xs:Array α):(pickOrder next xs).toList.Perm xs.toList:=by
 have:=Lr next xs.size 0 xs.toList #[] (by exact Ak _)
 unfold pickOrder
 simpa using this
section
variable {prog:Program}{w:World}{A:B2}{E:Ac→Ad→Prop}{s:Ad}
theorem Q5 {M:Model}{src:Source}{n:Nat}{Q:Nat→Ad→Prop}(hn:n≠0)(h:∀i d,i<n→Q i {s with drawn:=d}):wpAny M A (Qo src n) Q E s:=fun Γ p hΓ=>by
 unfold Qo
 rewrite[Sem.wp_choose]
 refine⟨hn,?_⟩
 rewrite[Sem.wp_pure]
 exact h _ _ (El _ (Nat.pos_of_ne_zero hn))
theorem K7 {α:Type}:∀(n:Nat) (xs:List α) {s:Ad} {Q:List α→Ad→Prop},xs.length=n→(∀ys d,ys.Perm xs→Q ys {s with drawn:=d})→wpAny (model prog w) A (drawOrder n xs) Q E s
 |0,xs,s,Q,h,hQ=>by
  have:xs=[]:=CJ h
  subst this
  exact A9 (hQ [] s.drawn (Cx _))
 |n+1,[],s,Q,h,_=>by simp at h
 |n+1,x::xs,s,Q,h,hQ=>by
  refine A7 (Q5 (by exact Cc (BK _)) fun i d hi=>?_)
  rw[Ah hi]
  refine A7 (K7 n _ (by rw[Jt,if_pos hi];simp only[AQ] at h ⊢;exact(Al [_,_] 0x144056141540512) h) fun ys d' hp=>A9 (hQ _ d' ?_))
  exact(Ea _ hp).trans (Kt _ _ hi)
end
end
section
open SetTable Classical
inductive SM where
 |text
 |drawn (T:Addr)(ord:List Nat)
 |table
def Pi (P:Params)(a n:Nat)(es:Array (Int×Ac)):SM→List Ac
 | .text=>(pickOrder (P.setOrder a n) es).toList.map (·.2)
 | .drawn _ ord=>ord.map fun q=>(es.toList.getD q (0, .none)).2
 | .table=>es.toList.map (·.2)
def Q6 (P:Params)(a n:Nat)(es:Array (Int×Ac))(t:SetTable)(i:Nat)(o:Obj):SM→Prop
 | .text=>P.followText "set-order"=true∧o.data= .fields #[.int 0 0, .int i 0, .ref a, .int es.size 0, .int n 0]
 | .drawn T ord=>P.followText "set-order"=false∧ord.Perm (Am es.size)∧o.data= .fields #[.ref T, .int i 0, .ref a, .int es.size 0, .int n 0]
 | .table=>P.followText "set-order"=false∧(!t.plain&&decide (es.size>1))=false∧t.led=true∧XA t.place∧∃slot:Nat,o.data= .fields #[.int slot 0, .int i 0, .ref a, .int es.size 0, .int n 0]∧below t.place slot=i
def EE:SM→List Addr
 | .drawn T _=>[T]
 |_=>[]
def Yi (h:Heap):SM→Prop
 | .drawn T ord=>h.get? T=some (Gv (ord.map fun(q:Nat)=>rawInt q))
 |_=>True
structure SetSt (w:World)(a n:Nat)(es:Array (Int×Ac))(t:SetTable)(m:SM)(I:Addr)(i:Nat)(s:Ad):Prop where
 set:s.heap.get? a=some (Ks es n t)
 fit:t.fits es.size=true
 it:∃o,s.heap.get? I=some o∧o.cls= .type "set_iterator"∧Q6 w.params a n es t i o m
 sm:Yi s.heap m
theorem Mk {P:Params}{a n:Nat}{es:Array (Int×Ac)}{t:SetTable}{i:Nat}{o:Obj}{m:SM}(h:Q6 P a n es t i o m):(Pi P a n es m).length=es.size:=by
 induction m using Mine.Internal.SM.casesOn with
 |text=>exact(Ag _).trans ((Jf _ es).length_eq.trans BF)
 |drawn T ord=>exact(Ag _).trans (h.2.1.length_eq.trans AO)
 |table=>exact(Ag _).trans BF
theorem RI {P:Params}{a n:Nat}{es:Array (Int×Ac)}{t:SetTable}{i:Nat}{o:Obj}{m:SM}(h:Q6 P a n es t i o m):(Pi P a n es m).Perm (es.toList.map (·.2)):=by
 induction m using Mine.Internal.SM.casesOn with
 |text=>exact(Jf _ es).map _
 |drawn T ord=>
  have:=h.2.1.map fun q=>(es.toList.getD q (0, .none)).2
  refine this.trans ?_
  have e:=Gy es.toList (0,Bl)
  rw[BF] at e
  have:(Am es.size).map (fun q=>(es.toList.getD q (0,Bl)).2)=((Am es.size).map fun q=>es.toList.getD q (0, .none)).map (·.2):=by rw[AW];rfl
  rw[this,e];rfl
 |table=>exact Cx _
theorem Vc {xs:Array Nat}(hr:XA xs){i:Nat}(hi:i<xs.size):below xs (xs.getD i 0+1)=i+1:=by
 have b:=FA hr (xs.getD i 0+1)
 focus(refine Ap (D_ (below xs (xs.getD i 0+1)) (i+1)) (fun l=>?_) fun z0=>?_;rotate_left;rcases z0 with l|l;rotate_right)
 ·have:=b.2.2 i (by exact(Al [_,_] 0x10041540502) l) hi
  exact(Al [_,_,_] 0x41501242502) this
 ·exact l
 ·have:=b.2.1 (i+1) l
  have:=hr i (i+1) (Bx _) (by x_go)
  exact(Al [_,_,_,_] 0x4150124350243542502) ‹_› this
theorem RJ {xs:Array Nat}(hr:XA xs):below xs 0=0:=by
 have b:=FA hr 0
 refine Ap (Nat.eq_zero_or_pos (below xs 0)) (fun l=>?_) fun l=>?_
 ·exact l
 ·have:=b.2.1 0 l
  exact(Al [_,_] 0x701741502) this
section
variable {prog:Program}{w:World}{A:B2}{E:Ac→Ad→Prop}{s:Ad}{hd:Option Addr}
theorem QR {a n:Nat}{es:Array (Int×Ac)}{t:SetTable}{m:SM}{I:Addr}{i:Nat}{Q:Option Ac→Ad→Prop}(st:SetSt w a n es t m I i s)(hA:A.handled=hd.map .ref)(hx:DT hd s.heap)(hne:∀x,hd=some x→x≠I)(hIa:I≠a)(hIm:I∉EE m)
  (item:∀v h',(Pi w.params a n es m)[i]? =some v→SetSt w a n es t m I (i+1) {s with heap:=h'}→Cm I s.heap h'→Q (some v) {s with heap:=h'})
  (done:es.size≤i→∀h',F0 I s.heap h'→Q none {s with heap:=h'}):wpAny (model prog w) A (pyNext (.ref I)) Q E s:=by
 rcases st with⟨gs,hf,⟨o,go,hc,tn⟩,hsm⟩
 have hT:s.TypeIs (.ref I) "set_iterator":=⟨o,go,hc⟩
 have hlen:=Mk tn
 refine A7 (Ds (Bm (name:=A8 "__next__") hT C8
  (B4 C8 hT HU ?_ (Hs _))))
 obtain ⟨first,hdat⟩:∃first,o.data= .fields #[first, .int i 0, .ref a, .int es.size 0, .int n 0]:=by
  induction m using Mine.Internal.SM.casesOn with
  |text=>exact⟨_,tn.2⟩
  |drawn T ord=>exact⟨_,tn.2.2⟩
  |table=>refine AB tn.2.2.2.2 fun slot h1 uu=>?_;exact⟨_,h1⟩
 refine(?_:wpAny _ _ (fieldsOf (.ref I)>>=_) _ _ s)
 refine A7 (Jz go hdat ?_)
 refine(?_:wpAny _ _ (setEntries a>>=_) _ _ s)
 refine A7 (JU gs rfl hf ?_)
 rw[if_neg (by simp)]
 have upd:∀(j:Nat) (v:Ac),j<5→(s.heap.update I (Bu (·.setIfInBounds j v))).get? I=some (o.mapFields (·.setIfInBounds j v)):=fun j v uu=>
  AK _ go (BB (Ba hdat _))
 induction m using Mine.Internal.SM.casesOn with
 |text=>
  refine Aw tn fun ht hdt=>?_;clear tn
  rw[hdat] at hdt
  have hfst:first= .int 0 0:=by
   have:=IT hdt
   simpa using this
  subst hfst
  have ht':(model prog w).w.params.followText "set-order"=true:=ht
  refine(?_:wpAny _ _ (setNext a 0 i n>>=_) _ _ s)
  refine A7 (A7 (BV gs rfl hf ?_))
  refine A7 ?_
  refine A7 (D3 (A9 ?_))
  rw[ht']
  refine WF ?_
  refine A7 ?_
  refine A7 (BV gs rfl hf ?_)
  refine A7 ?_
  refine A7 (D3 (A9 ?_))
  rw[ht']
  refine A7 (D3 (A9 (A9 ?_)))
  have hout:Pi w.params a n es .text=(pickOrder (w.params.setOrder a n) es).toList.map (·.2):=rfl
  refine Ap (Cy i es.size) (fun lt=>?_) fun ge=>?_
  ·have hl:i<(pickOrder ((model prog w).w.params.setOrder a n) es).size:=by
    have:=hlen
    rw[hout,Ag,BF] at this
    refine(?_:i<(pickOrder (w.params.setOrder a n) es).size)
    exact(Al [_,_,_] 0x140502112240502) lt this
   rw[Bn hl]
   refine A7 (Bv go hdat (by exact BK _) ?_)
   have g1:=upd 0 (rawInt ((0:Nat):Int)) (by decide)
   have d1:=Ba hdat (·.setIfInBounds 0 (rawInt ((0:Nat):Int)))
   refine A7 (Bv g1 d1 (by simp) ?_)
   refine A9 ⟨_,rfl,A9 ?_⟩
   have sb:Cm I s.heap ((s.heap.update I (Bu (·.setIfInBounds 0 (rawInt ((0:Nat):Int))))).update I (Bu (·.setIfInBounds 1 (rawInt ((i:Int)+1))))):=(Au ..).trans (Au ..)
   refine item _ _ ?_ ⟨(sb.2 a hIa.symm).trans gs,hf,⟨_,AK _ g1 (BB (Ba d1 _)),?_,ht,?_⟩,trivial⟩ sb
   ·rw[hout,Bc]
    have:(pickOrder (w.params.setOrder a n) es).toList[i]? =some (pickOrder ((model prog w).w.params.setOrder a n) es)[i]:=by
     rw[DW]
     exact Bn hl
    rw[this]
    rfl
   ·exact(CQ ..).trans ((CQ ..).trans hc)
   ·rw[Ba d1 _]
    simp[rawInt]
  ·have hl:(pickOrder ((model prog w).w.params.setOrder a n) es).size≤i:=by
    have:=hlen
    rw[hout,Ag,BF] at this
    refine(?_:(pickOrder (w.params.setOrder a n) es).size≤i)
    exact(Al [_,_,_] 0x10020121202) ge this
   rw[Ff hl]
   refine A7 (Bv go hdat (by simp) ?_)
   refine E2 (hd:=hd) hA (fun x e=>?_) fun h' e kk y=>?_
   ·refine BT (hx x e) fun o' xs g r=>?_
    exact Gn o' xs (((Au ..).2 x (hne x e)).trans g) r
   refine AB y fun oe ge' ce=>?_;clear y
   refine A7 (BS (T:="StopIteration") (b:=true) ⟨oe,ge',ce⟩ D8 ?_)
   exact A9 (done ge _ fun b ob nb e=>kk b ob (((Au ..).2 b nb).trans e))
 |drawn T ord=>
  refine DF tn fun ht hpm hdt=>?_;clear tn
  rw[hdat] at hdt
  have hfst:first= .ref T:=by
   have:=IT hdt
   simpa using this
  subst hfst
  have hT2:s.heap.get? T=some (Gv (ord.map fun(q:Nat)=>rawInt q)):=hsm
  refine(?_:wpAny _ _ (seqItems? (.ref T)>>=_) _ _ s)
  refine A7 (DC hT2 rfl ?_)
  dsimp only
  have hol:ord.length=es.size:=by rw[hpm.length_eq];simp
  have TI:I≠T:=fun e=>hIm (Ao.mpr e)
  refine Ap (Cy i es.size) (fun lt=>?_) fun ge=>?_
  ·have lo:i<ord.length:=by exact(Al [_,_,_] 0x140502405022112) hol lt
   have e1:(ord.map fun(q:Nat)=>rawInt q).toArray[FY (i:Int)]? =some (rawInt ord[i]):=by simp[lo]
   rw[e1]
   refine(?_:wpAny _ _ (setNextDrawn a ord[i] n>>=_) _ _ s)
   refine A7 (A7 (BV gs rfl hf ?_))
   refine WF ?_
   have lq:ord[i]<es.size:=by
    have:=hpm.mem_iff.mp (CG lo)
    simpa using this
   rw[Bn lq]
   dsimp only
   refine A9 ?_
   refine(?_:wpAny _ _ (setField (.ref I) 1 (rawInt ((i:Int)+1))>>=_) _ _ s)
   refine A7 (Bv go hdat (by simp) ?_)
   refine A9 ⟨_,rfl,A9 ?_⟩
   have sb:=Au s.heap I (Bu (·.setIfInBounds 1 (rawInt ((i:Int)+1))))
   refine item _ _ ?_ ⟨(sb.2 a hIa.symm).trans gs,hf,⟨_,upd 1 _ (by decide),?_,ht,hpm,?_⟩,(sb.2 T TI.symm).trans hT2⟩ sb
   ·refine(?_:(ord.map fun q=>(es.toList.getD q (0, .none)).2)[i]? =_);simp[lo,Cd,lq]
   ·exact(CQ ..).trans hc
   ·rw[Ba hdat _]
    simp[rawInt]
  ·have e1:(ord.map fun(q:Nat)=>rawInt q).toArray[FY (i:Int)]? =none:=by simp;exact(Al [_,_,_] 0x10012022012) hol ge
   rw[e1]
   dsimp only
   refine A7 (Bv go hdat (by exact BK _) ?_)
   have g1:=upd 0 (rawInt 0) (by decide)
   have d1:=Ba hdat (·.setIfInBounds 0 (rawInt 0))
   refine A7 (Bv g1 d1 (by simp) ?_)
   have sb:Cm I s.heap ((s.heap.update I (Bu (·.setIfInBounds 0 (rawInt 0)))).update I (Bu (·.setIfInBounds 2 .none))):=(Au ..).trans (Au ..)
   refine E2 (hd:=hd) hA (fun x e=>?_) fun h' e kk y=>?_
   ·refine BT (hx x e) fun o' xs g r=>?_
    exact Gn o' xs ((sb.2 x (hne x e)).trans g) r
   refine AB y fun oe ge' ce=>?_;clear y
   refine A7 (BS (T:="StopIteration") (b:=true) ⟨oe,ge',ce⟩ D8 ?_)
   exact A9 (done ge _ fun b ob nb e=>kk b ob ((sb.2 b nb).trans e))
 |table=>
  refine Aw tn fun ht zr=>?_;clear tn;refine Aw zr fun hnd zr=>?_;refine Aw zr fun hled zr=>?_;refine Aw zr fun hris zr=>?_;refine AB zr fun slot hdt hsl=>?_;clear zr
  rw[hdat] at hdt
  have hfst:first= .int slot 0:=by
   have:=IT hdt
   simpa using this
  subst hfst
  have ht':(model prog w).w.params.followText "set-order"=false:=ht
  refine(?_:wpAny _ _ (setNext a slot i n>>=_) _ _ s)
  refine A7 (A7 (BV gs rfl hf ?_))
  dsimp only
  refine A7 ?_
  refine A7 (D3 (A9 ?_))
  dsimp only
  rw[ht']
  refine IY AD ?_
  refine wpAny_ite ?_
  rewrite[if_neg (by refine(?_:¬((!t.plain&&decide (es.size>1))=true));rw[hnd];exact AD)]
  refine A7 ?_
  refine(?_:wpAny _ _ (if(!t.led&& !es.isEmpty)=true then _ else _) _ _ s)
  rw[hled]
  refine IY (by rw[OY,GU _];exact AD) ?_
  refine A9 ?_
  rw[hsl]
  have hps:t.place.size=es.size:=by
   unfold Kh at hf
   simp only[D1,beq_iff_eq] at hf
   exact hf.1
  refine Ap (Cy i es.size) (fun lt=>?_) fun ge=>?_
  ·rw[Bn lt];rewrite[Bn (show i<t.place.size by exact(Al [_,_,_] 0x140502405022112) hps lt)]
   dsimp only
   refine A9 ?_
   dsimp only
   refine A7 (Bv go hdat (by exact BK _) ?_)
   have g1:=upd 0 (rawInt ((t.place[i]+1:Nat):Int)) (by decide)
   have d1:=Ba hdat (·.setIfInBounds 0 (rawInt ((t.place[i]+1:Nat):Int)))
   refine A7 (Bv g1 d1 (by simp) ?_)
   refine A9 ⟨_,rfl,A9 ?_⟩
   have sb:Cm I s.heap ((s.heap.update I (Bu (·.setIfInBounds 0 (rawInt ((t.place[i]+1:Nat):Int))))).update I (Bu (·.setIfInBounds 1 (rawInt ((i:Int)+1))))):=(Au ..).trans (Au ..)
   refine item _ _ ?_ ⟨(sb.2 a hIa.symm).trans gs,hf,⟨_,AK _ g1 (BB (Ba d1 _)),?_,ht,hnd,hled,hris,t.place[i]+1,?_,?_⟩,trivial⟩ sb
   ·refine(?_:(es.toList.map (·.2))[i]? =_);simp[lt]
   ·exact(CQ ..).trans ((CQ ..).trans hc)
   ·rw[Ba d1 _]
    simp[rawInt]
   ·have:=Vc hris (i:=i) (by exact(Al [_,_,_] 0x140502405022112) hps lt)
    rw[show t.place.getD i 0=t.place[i] by simp[Ct,show i<t.place.size by exact(Al [_,_,_] 0x140502405022112) hps lt]] at this
    exact this
  ·rw[Ff ge]
   dsimp only
   refine A9 ?_
   dsimp only
   refine A7 (Bv go hdat (by simp) ?_)
   refine E2 (hd:=hd) hA (fun x e=>?_) fun h' e kk y=>?_
   ·refine BT (hx x e) fun o' xs g r=>?_
    exact Gn o' xs (((Au ..).2 x (hne x e)).trans g) r
   refine AB y fun oe ge' ce=>?_;clear y
   refine A7 (BS (T:="StopIteration") (b:=true) ⟨oe,ge',ce⟩ D8 ?_)
   exact A9 (done ge _ fun b ob nb e=>kk b ob (((Au ..).2 b nb).trans e))
end
end
section
open SetTable Classical
theorem HV:entryFor table "set_iterator.__iter__"=some Builtin.«dict_keyiterator.__iter__»:=
 entryFor_alias (id':="dict_keyiterator.__iter__") (by kernel_rfl) rfl (by decide+kernel) (by kernel_rfl)
theorem Ht (a:Ac):argsOk "set_iterator.__iter__" ⟨[a],[]⟩:=by
 unfold argsOk;rw[signature?_of (id:="set_iterator.__iter__") (n:=['_','_','r','e','t','i','_','_']) (o:=['r','o','t','a','r','e','t','i','_','t','e','s']) (by kernel_rfl) Gz];kernel_rfl
section
variable {prog:Program}{w:World}{A:B2}{E:Ac→Ad→Prop}{s:Ad}{hd:Option Addr}
theorem Vd {a n:Nat}{es:Array (Int×Ac)}{t:SetTable}{Q:Ac→Ad→Prop}(g:s.heap.get? a=some (Ks es n t))(hf:t.fits es.size=true)(hris:XA t.place)(hled:QQ w.params t)(hz:es.size≤10000)
  (k:∀m I s₂,(∀b o,s.heap.get? b=some o→s₂.heap.get? b=some o)→SetSt w a n es t m I 0 s₂→s.heap.objs.size≤I→I∉EE m→(∀x∈EE m,s.heap.objs.size≤x∧x<s₂.heap.objs.size)→s₂.gens=s.gens→s₂.os=s.os→s₂.toks=s.toks→s₂.heap.objs.size≤s.heap.objs.size+2→Q (.ref I) s₂):
  wpAny (model prog w) A (pyIter (.ref a)) Q E s:=by
 have hT:s.TypeIs (.ref a) "set":=⟨_,g,rfl⟩
 refine Hq hT Ng (B4 Ng hT NO ?_ (F.args_set_iter_1 _))
 unfold Builtin.«frozenset.__iter__» PJ slotArgs
 simp only[List.isEmpty_nil,OY,BN, ↓reduceIte,bind_assoc,Gg,bne_self_eq_false]
 refine A7 (A9 ?_)
 try dsimp only
 refine A7 (A9 ?_)
 refine A7 (A7 (JU g rfl hf (A9 ?_)))
 refine(?_:wpAny _ _ (setDrawn a>>=_) _ _ s)
 have hdr:setDrawn a=(do
   let(es,_,t)←setState a
   let byText←setsByText
   return !byText&&(!t.plain&&decide (es.size>1))):=rfl
 rw[hdr]
 refine A7 (A7 (BV g rfl hf ?_))
 refine A7 ?_
 refine A7 (D3 (A9 (A9 ?_)))
 cases ht:(model prog w).w.params.followText "set-order" with
 |true=>
  refine A7 (A9 ?_)
  refine A7 (DY g rfl hf ?_)
  refine A7 (Bb (A9 ⟨_,rfl,"set_iterator",_,⟨_,Ar _ rfl,rfl⟩,C8.lookup,?_⟩))
  refine k .text _ _ (fun b o e=>Aj _ e) ⟨Aj _ g,hf,⟨_,Ar _ rfl,rfl,ht,by simp[rawInt]⟩,trivial⟩ (Ak _) (by simp[EE]) (by simp[EE]) rfl rfl rfl ?_
  refine(?_:(s.heap.push _).objs.size≤_)
  rw[B3 _ _];exact(Al [_] 0x218054050)
 |false=>
  have ht2:w.params.followText "set-order"=false:=ht
  have hl:t.led=true:=hled.resolve_left (by rw[ht2];exact AD)
  cases hp:(!t.plain&&decide (es.size>1)) with
  |true=>
   refine A7 ?_
   refine(K7 es.size (Am es.size) (by simp) fun ys d hperm=>?_)
   have hyl:ys.length=es.size:=by rw[hperm.length_eq];simp
   refine A7 (wpAny_newTuple ?_ (by rw[Ag _,hyl,AV];exact Aa ‹_› (by decide)))
   refine A7 (DY (s:={s with drawn:=d,heap:=s.heap.push (seqObj "tuple" (ys.map fun(i:Nat)=>rawInt i).toArray 0)}) (Aj _ g) rfl hf ?_)
   refine A7 (Bb (A9 ⟨_,rfl,"set_iterator",_,⟨_,Ar _ rfl,rfl⟩,C8.lookup,?_⟩))
   refine k (.drawn s.heap.objs.size ys) _ _ (fun b o e=>Aj _ (Aj _ e)) ⟨Aj _ (Aj _ g),hf,⟨_,Ar _ rfl,rfl,ht2,hperm,by simp[rawInt]⟩,?_⟩ ?_ ?_ ?_ rfl rfl rfl ?_
   ·exact Aj _ (Ar _ rfl)
   ·refine(?_:_≤(s.heap.push _).objs.size)
    rw[B3 _ _];exact(Al [_] 0x40500)
   ·simp only[EE,Ao]
    rw[show(s.heap.push _).objs.size=_ from B3 ..]
    exact I6 _
   ·intro x hx
    simp only[EE,Ao] at hx
    subst hx
    refine⟨Ak _,?_⟩
    refine(?_:_<((s.heap.push _).push _).objs.size)
    rw[B3 _ _,B3 _ _];exact(Al [_] 0x440554050)
   ·refine(?_:((s.heap.push _).push _).objs.size≤_)
    rw[B3 _ _,B3 _ _]
    exact Ak _
  |false=>
   refine A7 (A9 ?_)
   refine A7 (DY g rfl hf ?_)
   refine A7 (Bb (A9 ⟨_,rfl,"set_iterator",_,⟨_,Ar _ rfl,rfl⟩,C8.lookup,?_⟩))
   refine k .table _ _ (fun b o e=>Aj _ e) ⟨Aj _ g,hf,⟨_,Ar _ rfl,rfl,ht2,hp,hl,hris,0,by simp[rawInt],RJ hris⟩,trivial⟩ (Ak _) (by simp[EE]) (by simp[EE]) rfl rfl rfl ?_
   refine(?_:(s.heap.push _).objs.size≤_)
   rw[B3 _ _];exact(Al [_] 0x218054050)
theorem Ve {I:Addr}{o:Obj}{Q:Ac→Ad→Prop}(g:s.heap.get? I=some o)(hc:o.cls= .type "set_iterator")(h:Q (.ref I) s):wpAny (model prog w) A (pyIter (.ref I)) Q E s:=by
 have hT:s.TypeIs (.ref I) "set_iterator":=⟨o,g,hc⟩
 refine Hq hT F5 (B4 F5 hT HV ?_ (Ht _))
 refine(?_:wpAny _ _ (ret (.ref I)) _ _ s)
 exact A9 ⟨_,rfl,"set_iterator",_,hT,C8.lookup,h⟩
end
end
section
open SetTable Classical
section
variable {prog:Program}{w:World}{A:B2}{E:Ac→Ad→Prop}{s:Ad}{hd:Option Addr}
def WS (w:World)(a n:Nat)(es:Array (Int×Ac))(t:SetTable)(m:SM)(I:Addr)(ex:List Addr)(s₂:Ad)(i:Nat)(s':Ad):Prop:=
 SetSt w a n es t m I i s'∧∀b ob,b∉I::ex→s₂.heap.get? b=some ob→s'.heap.get? b=some ob
theorem WT {a n:Nat}{es:Array (Int×Ac)}{t:SetTable}{m:SM}{I:Addr}(ex:List Addr)(st0:SetSt w a n es t m I 0 s)(hA:A.handled=hd.map .ref)(hx:DT hd s.heap)(hIx:I∉ex)(hax:a∉I::ex)(hmx:∀x∈EE m,x∉I::ex)(hxx:∀x,hd=some x→x∉I::ex):
  WalksS prog w A I ((Am s.heap.objs.size).filter fun b=>decide (b∉ex)) [I] (fun a b=>b=a) es.size (fun i v=>(Pi w.params a n es m)[i]? =some v) (WS w a n es t m I ex s):=by
 have hI:I<s.heap.objs.size:=by rcases st0.it with⟨o,g,_⟩;exact Ax g
 have ha:a<s.heap.objs.size:=Ax st0.set
 have inI:I∈(Am s.heap.objs.size).filter fun b=>decide (b∉ex):=by simp[hIx];exact hI
 have inA:a∈(Am s.heap.objs.size).filter fun b=>decide (b∉ex):=by
  simp only[Aq,not_or] at hax
  simp[hax.2]
  exact ha
 have exc:∀{i s'},WS w a n es t m I ex s i s'→DT hd s'.heap:=fun{i s'} st x e=>by
  refine BT (hx x e) fun o xs g r=>?_
  exact Gn o xs (st.2 x o (hxx x e) g) r
 have hIa:I≠a:=fun q=>hax (by rw[q];exact Ab ..)
 have hIm:I∉EE m:=fun q=>hmx I q (Ab ..)
 have step:∀{i s' h'},WS w a n es t m I ex s i s'→(∀b∈(Am s.heap.objs.size).filter fun b=>decide (b∉ex),∀o,s'.heap.get? b=some o→h'.get? b=some o)→∀tk,WS w a n es t m I ex s i {s' with heap:=h',toks:=tk}:=fun{i s' h'} st hk tk=>by
  refine Aw st fun z0 k=>?_;clear st;rcases z0 with⟨g,f,⟨o,go,c,tn⟩,sm⟩
  refine⟨⟨hk a inA _ g,f,⟨o,hk I inI _ go,c,tn⟩,?_⟩,fun b ob nb e=>hk b ?_ _ (k b ob nb e)⟩
  ·induction m using Mine.Internal.SM.casesOn with
   |drawn T ord=>
    have hT:=hmx T (by exact Ab)
    simp only[Aq,not_or] at hT
    exact hk T (by simp[hT.2];exact Ax st0.sm) _ sm
   |_=>trivial
  ·simp only[Aq,not_or] at nb
   simp only[Gf,BA,decide_eq_true_eq]
   exact⟨Ax e,nb.2⟩
 exact{
  sub:=fun b hb=>by simp only[Ao] at hb;subst hb;exact inI
  grefl:=fun uu=>rfl
  gtrans:=fun uu uu uu h1 h2=>h2.trans h1
  frame:=fun i s' h' tk st uu hk=>step st hk tk
  item:=fun i s' Q E hi st hQ=>by
   refine QR st.1 hA (exc st) (fun x e q=>hxx x e (by rw[q];exact Ab ..)) hIa hIm (fun v h' e st' sb=>?_) fun ge=>absurd hi (Dv.mpr ge)
   exact hQ v _ e ⟨st',fun b ob nb e=>(sb.2 b (fun q=>nb (by rw[q];exact Ab ..))).trans (st.2 b ob nb e)⟩ ⟨fun b ob nb e=>(sb.2 b (by simpa using nb)).trans e,rfl,rfl,rfl,Ak _⟩
  done:=fun s' Q E st hQ=>by
   refine QR st.1 hA (exc st) (fun x e q=>hxx x e (by rw[q];exact Ab ..)) hIa hIm (fun v h' e st' sb=>?_) fun uu h' eb=>?_
   ·rcases st.1 with⟨_,_,⟨o,_,_,tn⟩,_⟩
    have:=Mk tn
    rw[Bg (by exact(Al [_,_] 0x1001012) this)] at e
    exact CC e
   ·exact hQ _ ⟨fun b ob nb e=>eb b ob (by simpa using nb) e,rfl,rfl,rfl,Ak _⟩
  self:=fun i s' Q E st hQ=>by
   refine CP st.1.it fun o g c uu=>?_
   exact Ve g c hQ}
theorem QT {a n:Nat}{es:Array (Int×Ac)}{t:SetTable}{Q:List Ac→Ad→Prop}(g:s.heap.get? a=some (Ks es n t))(hf:t.fits es.size=true)(hris:XA t.place)(hled:QQ w.params t)(hz:es.size≤10000)(hA:A.handled=hd.map .ref)(hx:DT hd s.heap)
  (k:∀vs s',vs.Perm (es.toList.map (·.2))→(∀b o,s.heap.get? b=some o→s'.heap.get? b=some o)→s'.gens=s.gens→s'.os=s.os→Q vs s'):wpAny (model prog w) A (collect (.ref a)) Q E s:=by
 refine A7 (Fm (BZ F.entry_proto_collect ?_))
 rw[Cr F.plain_proto_collect _]
 refine(?_:wpAny _ A.in1 (newList []>>=fun l=>again (.builtin "list.__iadd__" ⟨[l, .ref a],[]⟩)) _ _ s)
 refine A7 (Bb ?_)
 refine A9 ⟨EF LV _,BZ F.entry_list_iadd ?_⟩
 rw[Cr LV _]
 have hSa:s.heap.objs.size≠a:=Cc (Ax g)
 have g1:(s.heap.push {cls:= .type "list",data:= .seq ([]:List Ac).toArray}).get? a=some (Ks es n t):=Aj _ g
 have hT:HK {s with heap:=s.heap.push {cls:= .type "list",data:= .seq ([]:List Ac).toArray}} (.ref a) "set":=⟨_,g1,rfl⟩
 have hS₁:(s.heap.push {cls:= .type "list",data:= .seq ([]:List Ac).toArray}).get? s.heap.objs.size=some {cls:= .type "list",data:= .seq ([]:List Ac).toArray}:=Ar _ rfl
 have h1:Builtin.List.listSameRef (.ref s.heap.objs.size) (.ref a)=false:=beq_eq_false_iff_ne.mpr hSa
 refine(?_:wpAny _ A.in1 (Builtin.List.listExtendWith (.ref s.heap.objs.size) (.ref a) (.ref s.heap.objs.size)) _ _ _)
 refine A7 (Fp hT ?_)
 refine IY (by rw[h1];exact AD) ?_
 refine A7 (Vd (s:={s with heap:=s.heap.push {cls:= .type "list",data:= .seq ([]:List Ac).toArray}}) g1 hf hris hled hz fun m I s₂ kp st hI hIm hms eg eo et uu=>?_)
 refine A7 (Ay ?_)
 have hT2:s₂.TypeIs (.ref a) "set":=⟨_,st.set,rfl⟩
 refine A7 (EO hT2 F.slot_set_len.lookup ?_)
 (generalize hid:("set.__len__":String)=id0;(fail_if_success (clear hid id0));wp_delta;rw[show splitId id0=some ("set","__len__") from by subst hid;decide+kernel];subst hid)
 refine A7 (BS (b:=true) hT2 sub_set_self ?_)
 refine A7 (m:=typeOf (.ref a)) (Fp hT2 ?_)
 refine A9 ?_
 have hSI:s.heap.objs.size≠I:=fun q=>by
  rw[←q,show(s.heap.push _).objs.size=_ from B3 ..] at hI
  exact G1 _ hI
 have oldI:∀x,x<s.heap.objs.size→x≠I:=fun x hx q=>by
  rw[←q,show(s.heap.push _).objs.size=_ from B3 ..] at hI
  exact(Al [_,_] 0x5041502140502) hI hx
 have hSm:s.heap.objs.size∉EE m:=fun q=>by
  have:=(hms _ q).1
  rw[show(s.heap.push _).objs.size=_ from B3 ..] at this
  exact G1 _ this
 have hS₂:=kp _ _ hS₁
 have hx₂:DT hd s₂.heap:=DT.keeps hx fun b o e=>kp b o (Aj _ e)
 have W:=WT (prog:=prog) (A:=A.in1) (hd:=hd) [s.heap.objs.size] st hA hx₂ (by simpa using hSI.symm) (by
  simp only[Aq,Be,or_false,not_or]
  exact⟨oldI a (Ax g),hSa.symm⟩) (fun x hxm=>by
  simp only[Aq,Be,or_false,not_or]
  exact⟨fun q=>hIm (q▸hxm),fun q=>hSm (q▸hxm)⟩) (fun x e=>by
  refine BT (hx x e) fun o xs gx uu=>?_
  simp only[Aq,Be,or_false,not_or]
  exact⟨oldI x (Ax gx),BL (Ax gx)⟩)
 refine(?_:wpAny _ A.in1 (rule "list.extend.makes-room">>=fun uu=>Builtin.List.listTouch (.ref s.heap.objs.size)>>=fun uu=>
  again (.builtin "list.extend.loop" ⟨[.ref s.heap.objs.size, .ref I, .ref s.heap.objs.size],[]⟩)) _ _ _)
 refine A7 (Cs ?_)
 refine A7 ?_
 refine(?_:wpAny _ A.in1 (updateSeq s.heap.objs.size (·.push .none)>>=fun uu=>updateSeq s.heap.objs.size (·.pop)) _ _ _)
 refine A7 (Gb hS₂ rfl ?_)
 have hS₃:=AK (BP (·.push Bl)) hS₂ rfl
 refine Gb hS₃ rfl ?_
 have hS₄:=AK (BP (·.pop)) hS₃ rfl
 have oth:∀b o,b≠s.heap.objs.size→s₂.heap.get? b=some o→((s₂.heap.update s.heap.objs.size (BP (·.push Bl))).update s.heap.objs.size (BP (·.pop))).get? b=some o:=
  fun b o hb e=>(B0 _ _ (Ck hb)).trans ((B0 _ _ (Ck hb)).trans e)
 have hSf:s.heap.objs.size∉(Am s₂.heap.objs.size).filter fun b=>decide (b∉[s.heap.objs.size]):=by simp
 rcases id st with⟨_,_,⟨o,_,_,tn⟩,_⟩
 have hlen:=Mk tn
 have hpm:=RI tn
 refine A9 ⟨EF F.plain_extend_loop _,codeAny_extend_loopS W (by rw[AV];exact Aa ‹_› (by decide)) _ hSf _ es.size 0 _ _ _ rfl (AM _)
  (W.frame 0 s₂ _ s₂.toks ⟨st,fun b ob uu e=>e⟩ (Ak _) fun b hb o e=>oth b o (fun h=>hSf (h▸hb)) e) hS₄ (ItemsOf.nil _) fun s' acc' c' hm hS' hacc=>?_⟩
 refine(?_:wpAny _ A (load s.heap.objs.size>>=_) _ _ s')
 refine A7 (L0 hS' ?_)
 refine A9 (k _ _ ?_ (fun b o e=>?_) (hm.gens.trans eg) (hm.os.trans eo))
 ·have:acc'.toList=Pi w.params a n es m:=by
   apply List.ext_getElem?
   intro i
   rw[DW]
   cases c:acc'[i]? with
   |none=>
    have:=Array.getElem?_eq_none_iff.mp c
    rw[hacc.1] at this
    rewrite[Bg (by exact(Al [_,_,_] 0x10012022012) hlen this)];rfl
   |some v=>exact(hacc.2 i v c).symm
  rw[this]
  exact hpm
 ·have lt:=Ax e
  exact hm.heap b o (by
   simp only[Aq,Be,or_false,not_or]
   exact⟨BL lt,oldI b lt⟩) (oth b o (BL lt) (kp b o (Aj _ e)))
end
end
section
open SetTable Classical
theorem OU {ps qs:List PV}(h:FS ps)(p:qs.Perm ps):FS qs:=by
 refine M6 h fun h1 h2 h3 h4=>?_;clear h
 refine⟨by rw[p.length_eq];exact h1,Lp fun x m=>Dx h2 (p.mem_iff.mp m),Lq fun x m=>Aa (Ef (p.mem_iff.mp m)) h3,?_⟩
 exact h4.imp (fun z x m=>z x (p.mem_iff.mp m)) fun z x m=>z x (p.mem_iff.mp m)
theorem TT {h:Heap}:∀{vs us:List Ac},us.Perm vs→∀{ps:List PV},AG h ps vs→∃qs:List PV,qs.Perm ps∧AG h qs us:=by
 intro vs us p
 induction p with
 |nil=>
  intro ps r
  induction ps using Az with
  |nil=>exact⟨[],Cx _,r⟩
  |cons _ _=>exact AF r
 |cons x p ih=>
  intro ps r
  induction ps using Az with
  |nil=>exact AF r
  |cons q ps=>
   replace r:=AG.c r
   refine AB (ih r.2) fun qs h1 h2=>?_
   exact⟨q::qs,Ea q h1,by refine AG.d ?_;exact⟨r.1,h2⟩⟩
 |swap x y l=>
  intro ps r
  match ps,r with
  |[],r=>exact AF r
  |[_],r=>replace r:=AG.c r;exact r.2.elim
  |a::b::ps,r=>
   replace r:=AG.c r
   exact⟨b::a::ps,GT ..,by refine AG.d ?_;exact⟨r.2.1,r.1,r.2.2⟩⟩
 |trans _ _ ih1 ih2=>
  intro ps r
  refine AB (ih2 r) fun qs h1 h2=>?_
  refine AB (ih1 h2) fun rs h3 h4=>?_
  exact⟨rs,h3.trans h1,h4⟩
section
variable {X:Ctx}{h:Heap}{H:AH}{s:Ad}{A:B2}{E:Ac→Ad→Prop}{d:Nat}{Q:PV→AH→Prop}{post:Ac→Ad→Prop}
theorem Own.watch (O:Own X h H s){a:Addr}{o:Obj}{po:PO}(ha:h.get? a=none)(g:s.heap.get? a=some o)(r:Km X.w.params h po o)(h4:4≤a):Own X h (H.set a po) s:=by
 refine⟨O.keep,fun b p e=>?_,O.gens,O.os,O.lo,fun b p e=>?_⟩
 ·by_cases q:b=a
  ·subst q
   rw[AH.set_self] at e
   replace e:=Ai e;subst e
   exact⟨ha,o,g,r⟩
  ·rw[AH.set_ne q] at e
   exact O.cell b p e
 ·by_cases q:b=a
  ·rw[q];exact h4
  ·rw[AH.set_ne q] at e
   exact O.hi b p e
theorem Own.grown {s':Ad}(x:X.In h)(O:Own X h H s)(k:∀b o,s.heap.get? b=some o→s'.heap.get? b=some o)(eg:s'.gens=s.gens)(eo:s'.os=s.os):Own X h H s':=by
 refine⟨fun b o e=>k b o (O.keep b o e),fun a po e=>let⟨n,o,g,r⟩:=O.cell a po e;⟨n,o,k a o g,r⟩,eg.trans O.gens,eo.trans O.os,?_,O.hi⟩
 rcases x.lo with⟨a,oa,la,ga⟩
 exact Aa la (AU (Ax (k a oa (O.keep _ _ ga))))
theorem Pj (x:X.In h)(O:Own X h H s){v:Ac}{ps:List PV}(hs:FS ps)(hu:A.units+400<cLine)(P:EG X h Q post)(t:∀ws:List PV,ws.Perm ps→FT ws→∀c,H c=none→Q (.loc c) (H.set c (.list ws)))
  (hc:∀Q':List Ac→Ad→Prop,(∀vs qs s',qs.Perm ps→AG h qs vs→Own X h H s'→Q' vs s')→wpAny (model X.prog X.w) A.in1 (collect v) Q' E s):
  wpAny (model X.prog X.w) A (call (.builtin "sorted") [v]) post E s:=by
 refine Calls.call_function_entry kind_sorted plain_sorted entry_sorted (args_sorted1 _) ?_
 refine A7 (m:=checkCount "sorted" 1 1 _) (A9 ?_)
 refine A7 (hc _ fun vs qs s' pm r O'=>?_)
 have hs':=OU hs pm
 have z:=r.len
 refine A7 (wpAny_newList ?_ (by have:=hs'.1;rw[AV];exact(Al [_,_] 0x100000078004028415020112) z this))
 have O2:=O'.push (seqObj "list" vs.toArray 0)
 have hD:h.get? s'.heap.objs.size=none:=by
  cases z:h.get? s'.heap.objs.size with
  |none=>rfl
  |some y=>exact absurd (Ax (O'.keep _ _ z)) (BO _)
 refine A7 (Ay (B4 slot_list_sort ⟨_,Ar _ rfl,rfl⟩ entry_list_sort ?body (args_list_sort _)))
 case body=>
  refine QJ O2 r hs' (Ar _ rfl) hD O'.fresh (by refine(?_:A.units+1+1+200<cLine);exact(Al [_,_] 0x14c82844055550141903805502) hu) fun ws us s₃ n' pm2 so rr g O3=>?_
  refine⟨_,rfl,?_⟩
  refine A9 ⟨_,rfl,?_⟩
  exact P.here (O3.watch (po:= .list ws) hD g ⟨us,n',rfl,rr⟩ O'.lo) (by refine AP.l' ?_;rfl) (t ws (pm2.trans pm) so _ O'.fresh)
theorem Vf (x:X.In h)(O:Own X h H s){l:Addr}(hA:A.handled=X.exc.map .ref)(hu:A.units+400<cLine)(P:EG X h Q post)(t:Zg (H l) (Nu H Q)):wpAny (model X.prog X.w) A (call (.builtin "sorted") [.ref l]) post E s:=by
 replace t:=SJ t
 obtain ⟨vs,e|e,t⟩:=t
 ·skip
  revert t;refine fun zq=>Aw zq fun hs t=>?_;clear zq
  refine Pj x O hs hu P t fun Q' k=>?_
  refine BT (O.isList e) fun xs n g r=>?_
  have z:=r.len
  refine collect_list (WC g) (k xs vs _ (Cx _) r ?_) (by have:=hs.1;rw[AV];exact(Al [_,_] 0x100000078004028415020112) z this)
  refine O.grown x (fun b o e=>?_) rfl rfl
  rw[Heap.get?_update_ne _ _ _ _ (BL (Ax e))]
  exact Aj _ e
 ·skip
  revert t;refine fun zq=>Aw zq fun hs t=>?_;clear zq
  refine Pj x O hs hu P t fun Q' k=>?_
  refine AI (O.at e) fun o zr=>?_;revert zr;refine fun zq=>Aw zq fun g zr=>?_;clear zq;revert zr;refine fun zq=>AI zq fun es zr=>?_;clear zq;revert zr;refine fun zq=>AI zq fun n zr=>?_;clear zq;revert zr;refine fun zq=>AI zq fun tb zr=>?_;clear zq;revert zr;refine fun zq=>Aw zq fun z0 zr=>?_;clear zq;subst z0;revert zr;refine fun zq=>Aw zq fun f zr=>?_;clear zq;revert zr;refine fun zq=>Aw zq fun ri zr=>?_;clear zq;revert zr;refine fun zq=>Aw zq fun le zr=>?_;clear zq;refine AB zr fun ws' pm r=>?_;clear zr
  have z:=r.len
  have z2:=pm.length_eq
  refine QT (hd:=X.exc) g f ri le ?_ hA (DT.keeps x.ex O.keep) fun vs s' pv kp eg eo=>?_
  ·have:=hs.1
   simp only[Ag,BF] at z
   exact(Al [_,_,_] 0x2710480001124028425022112) z2 this z
  ·refine AB (TT pv r) fun qs h1 h2=>?_
   exact k vs qs s' (h1.trans pm) h2 (O.grown x kp eg eo)
end
end
section
open Classical
def Vg (h h':Heap)(e:Addr)(T:String):Prop:=(∀b o,h.get? b=some o→h'.get? b=some o)∧h.get? e=none∧∃o,h'.get? e=some o∧o.cls= .type T
section
variable {α:Type}{prog:Program}{w:World}{A:B2}{E:Ac→Ad→Prop}{s:Ad}{hd:Option Addr}
theorem Q7 {e:Addr}{o:Obj}{xs:Array Ac}{Q:α→Ad→Prop}(ge:s.heap.get? e=some o)(de:o.data= .fields xs)(h2:2<xs.size)(hA:A.handled=hd.map .ref)(hx:DT hd s.heap)(hne:∀a,hd=some a→a≠e)
  (k:∀h',Cm e s.heap h'→(∃o',h'.get? e=some o'∧o'.cls=o.cls)→E (.ref e) {s with heap:=h'}):wpAny (model prog w) A (raiseNew (.ref e):Sem α) Q E s:=by
 refine A7 (wpAny_handled ?_)
 rw[hA]
 induction hd using Bq with
 |none=>
  refine A7 (A9 (Hw ?_))
  exact k _ (LU e s.heap) ⟨o,ge,rfl⟩
 |some a=>
  refine Cv (hx a rfl) fun oa ys g d x2=>?_
  simp only[By]
  rw[if_pos (by simp only[bne_iff_ne,ne_eq,N6];exact hne a rfl)]
  refine A7 (Ay (Fm (BZ K3 ?_)))
  refine A7 (C4 g d x2 ?_)
  refine(?_:wpAny _ _ (do return←ret .none) _ _ _)
  refine A7 (A9 (A9 ?_))
  refine A7 ?_
  refine A7 (L0 ge ?_)
  rw[de]
  dsimp only
  rw[if_pos h2]
  refine wpAny_update ge (Hw (k _ (Au ..) ⟨_,AK _ ge (BB (Ba de _)),CQ ..⟩))
theorem Ku {o:Ac}{name:Str}{msg:Str}{Q:α→Ad→Prop}(hA:A.handled=hd.map .ref)(hx:DT hd s.heap)
  (h:∀h' tk e,Vg s.heap h' e "AttributeError"→E (.ref e) {s with heap:=h',toks:=tk})(hm:msg.length≤sizeLine):
  wpAny (model prog w) A (raiseAttrError o name msg:Sem α) Q E s:=by
 refine A7 (wpAny_mkStr (A7 ?_) hm)
 refine A7 (Bb ?_ (by size_fits))
 refine A7 (m:=firstArgMember _ _) (Ek (a:=Bl) (by simp only[firstArgMember,attrError_no_first];rfl) ?_)
 rw[ownMembersOf_AttributeError _]
 refine Bb ?_ (by size_fits)
 rcases s with⟨hp,g,d,tk,os⟩
 have f1:=EV
 have main:∀{hp':Heap} {tk':Nat} {e:Addr} {oe:Obj} {xs:Array Ac},(∀b ob,hp.get? b=some ob→hp'.get? b=some ob)→hp.get? e=none→hp'.get? e=some oe→oe.data= .fields xs→2<xs.size→oe.cls= .type "AttributeError"→
   wpAny (model prog w) A (raiseNew (.ref e):Sem α) Q E ⟨hp',g,d,tk',os⟩:=fun{hp' tk' e oe xs} kp en ge de h2 hc=>by
  refine Q7 (hd:=hd) ge de h2 hA (DT.keeps hx kp) (fun a q z=>?_) fun h' sb y=>?_
  ·refine BT (hx a q) fun o' ys g' uu=>?_
   rw[z,en] at g'
   exact CC g'
  ·refine AB y fun o' g' c'=>?_;clear y
   exact h h' tk' e ⟨fun b ob hb=>(sb.2 b (fun z=>by rw[z,en] at hb;exact CC hb)).trans (kp b ob hb),en,o',g',c'.trans hc⟩
 repeat(any_goals(first|assumption|((with_reducible refine(?_:wpAny _ _ (raiseNew _) _ _ _));refine main ?_ ?_ (AK _ (Ar _ rfl) rfl) rfl (by simp[Bu]) rfl)|wp_step))
 ·intro b ob hb
  have hlt:b<hp.objs.size:=Ax hb
  refine(B0 _ _ ?_).trans (Aj _ (Aj _ hb))
  simp only[B3]
  exact Cc (BW hlt)
 ·exact Dj (by simp)
theorem Ls {a:Addr}{xs:Array Ac}{k:Nat}{sl:Array (Option Ac)}{name:Str}{u:Tok}{hd:Option Addr}(hmiss:typeLookup (.type "list") name=pure none)(hname:(["__module__","__name__","__qualname__","__doc__","__annotations__"]:List Str).contains name=false)(hsz:name.length+100≤sizeLine):
  Meets (Builtin.«object.__getattribute__» ⟨[.ref a, .str name u],[]⟩) (fun A R s=>s.heap.get? a=some {cls:= .type "list",dict:=none,data:= .seq xs k,slots:=sl}∧A.handled=hd.map .ref∧DT hd s.heap∧∀h' tk e,Vg s.heap h' e "AttributeError"→R (.error (.ref e)) {s with heap:=h',toks:=tk}):=
 Meets.of_wp fun prog w A R s hs=>by
  rcases s with⟨hp,g,d,tk,os⟩
  refine M6 hs fun hx hs1 hs2 hs3=>?_;clear hs
  have hT:(⟨hp,g,d,tk,os⟩:Ad).TypeIs (.ref a) "list":=⟨_,hx,rfl⟩
  repeat(any_goals(first|assumption|wp_step))
  refine wpAny_ite_false (decide_eq_false ((Bool.eq_false_iff.mp hname))) ?_
  repeat(any_goals(first|assumption|wp_step))
  exact Ku hs1 hs2 hs3 (attrMsg_fits (by decide+kernel) hsz)
theorem getAttr?_miss {a:Addr}{xs:Array Ac}{k:Nat}{name:Str}{Q:Option Ac→Ad→Prop}
  (hx:s.heap.get? a=some (seqObj "list" xs k))(hmiss:typeLookup (.type "list") name=pure none)(hname:(["__module__","__name__","__qualname__","__doc__","__annotations__"]:List Str).contains name=false)(hA:A.handled=hd.map .ref)(he:DT hd s.heap)
  (h:∀h' tk,(∀b o,s.heap.get? b=some o→h'.get? b=some o)→Q none {s with heap:=h',toks:=tk})(hsz:name.length+100≤sizeLine):
  wpAny (model prog w) A (getAttr? (.ref a) name) Q E s:=by
 rcases s with⟨hp,g,d,tk,os⟩
 have hT:∀tk',(⟨hp,g,d,tk',os⟩:Ad).TypeIs (.ref a) "list":=fun uu=>⟨_,hx,rfl⟩
 have f1:=EV
 have f3:=EC.lookup
 have f4:=EC.bind (.ref a)
 have f5:=am_list_getattr_none
 refine A7 (wpAny_mkText ?_)
 refine A7 (Ds ?_)
 repeat(any_goals(first|assumption|exact hT _|((with_reducible refine(?_:wpAny _ _ (call (OZ "list.__getattribute__") _ _) _ _ _));refine GV EC (hT _) am_entry_list_getattribute (F.args_list_getattribute_2 _ _) (Ls (xs:=xs) (k:=k) (sl:=#[]) (hd:=hd) hmiss hname hsz) ⟨hx,hA,he,fun h' tk' e hx'=>?_⟩)|wp_step))
 refine Aw hx' fun kp zr=>?_;clear hx';refine Aw zr fun en zr=>?_;refine AB zr fun oc g' c'=>?_;clear zr
 have hTe:(⟨h',g,d,tk',os⟩:Ad).TypeIs (.ref e) "AttributeError":=⟨oc,g',c'⟩
 refine(?_:wpAny _ _ (getattributeRaised _ _ _ _ _ _ _) _ _ _)
 refine A7 (BS (b:=true) hTe EV ?_)
 refine A7 (m:=hookBehind (E_ "list") none) ?_
 refine(?_:wpAny _ _ (typeLookup (.type "list") "__getattr__") _ _ _)
 rw[f5]
 refine A9 ?_
 refine Hw ?_
 refine A7 (BS (b:=true) hTe EV ?_)
 exact A9 (h h' tk' kp)
end
end
section
open Classical
theorem HW {k v:PV}:∀{es:List (PV×PV)},(put k v es).map (·.1)=if k∈es.map (·.1) then es.map (·.1) else es.map (·.1)++[k]
 |[]=>(if_neg Be).symm
 |(q,u)::r=>by
  rw[Li]
  by_cases c:q=k
  ·rw[if_pos c]
   subst c
   simp
  ·rw[if_neg c]
   have ih:=HW (k:=k) (v:=v) (es:=r)
   simp only[B9,ih,Aq]
   by_cases d:k∈r.map (·.1)
   ·rw[if_pos d,if_pos (.inr d)];rfl
   ·rw[if_neg d];rewrite[if_neg (by rintro (e|e);exact c e.symm;exact d e)]
    rfl
theorem Q8 {k v:PV}{es:List (PV×PV)}:(put k v es).length≤es.length+1:=by
 have:=congrArg Do (HW (k:=k) (v:=v) (es:=es))
 rw[Ag] at this
 rw[this]
 split
 ·rw[Ag _];exact(Al [_] 0x40500)
 ·rw[AC,Ag _];simp
theorem RK {h:Heap}{p:PV}{v:Ac}(r:AP h p v)(hp:HP p=true):handedIn v=true:=by
 induction p using Mine.Internal.PV.casesOn with
 |none=>cases Gx r;rfl
 |bool b=>cases Lm r;rfl
 |int i=>refine EJ r fun t=>?_;rfl
 |str x=>refine Mc r fun t=>?_;rfl
 |tup vs=>refine Md r fun a xs uu uu=>?_;rfl
 |loc a=>cases C6 r;rfl
 |inst C a d=>refine Aw (Ln r) fun z0 uu=>?_;subst z0;rfl
 |rng lo hi=>replace r:=AP.g r;refine Tr r fun a uu uu uu z4 uu=>?_;clear r;subst z4;rfl
 |bi b=>replace r:=AP.k r;subst r;induction b using Mine.Internal.BI.casesOn<;>decide+kernel
 |raw w=>
  cases Ik r
  induction v using Ev<;>first|rfl|exact FI hp
theorem Pk {h:Heap}{y x:Str}{v:Ac}(r:AP h (.str y) v):v.isStr x=decide (y=x):=by
 refine Mc r fun t=>?_
 refine(?_:(y == x)=_)
 by_cases e:y=x
 ·subst e;exact rfl
 ·simp[e]
theorem NP {P:Params}{h:Heap}{name:Str}:∀{es:List (PV×PV)} {ds:List DictEntry},DJ P h es ds→(∀q∈es,(∃x,q.1= .str x)∧HP q.2=true)→
  (∀p,EH (.str name) es=some p→∃v,getL name ds=some (some v)∧AP h p v∧HP p=true)∧(EH (.str name) es=none→getL name ds=some none)
 |[],[],_,_=>⟨fun p e=>CC e,fun uu=>rfl⟩
 |[],_::_,r,_=>r.elim
 |_::_,[],r,_=>r.elim
 |(k,v)::es,d::ds,r,hs=>by
  refine Aw (hs _ (Ab ..)) fun z0 hv=>?_;refine AI z0 fun x z1=>?_;clear z0;subst z1
  refine Aw (NP (name:=name) r.2.2.2 fun q m=>hs q (Af _ m)) fun ih1 ih2=>?_
  have e1:=Pk (x:=name) r.1
  have rk:d.refKey=false:=by refine AI (JH r.1) fun t e=>?_;unfold MI;rw[e];rfl
  unfold getL
  rw[List.find?_cons,e1]
  by_cases c:x=name
  ·subst c
   rw[decide_eq_true rfl]
   refine⟨fun p e=>?_,fun e=>?_⟩
   ·rw[HR,if_pos rfl] at e
    replace e:=Ai e;subst e
    exact⟨d.val,rfl,r.2.1,hv⟩
   ·rw[HR,if_pos rfl] at e
    exact HJ e
  ·rw[decide_eq_false c]
   have e2:EH (.str name) ((PV.str x,v)::es)=EH (.str name) es:=by
    rw[HR];rewrite[if_neg (fun q=>c (PV.str.inj q))];rfl
   rw[e2,P3,rk,P5 _]
   exact⟨ih1,ih2⟩
theorem QU {P:Params}{h:Heap}{name:Str}{v:PV}{kv u:Ac}(rv:AP h v u)(rk:AP h (.str name) kv):∀{es:List (PV×PV)} {ds:List DictEntry},DJ P h es ds→(∀q∈es,(∃x,q.1= .str x)∧HP q.2=true)→
  DJ P h (put (.str name) v es) (putL name (Bh P (.str name)) kv u ds)
 |[],[],_,_=>⟨rk,rv,rfl,trivial⟩
 |[],_::_,r,_=>r.elim
 |_::_,[],r,_=>r.elim
 |(k,q)::es,d::ds,r,hs=>by
  refine Aw (hs _ (Ab ..)) fun z0 hv=>?_;refine AI z0 fun x z1=>?_;clear z0;subst z1
  have e1:=Pk (x:=name) r.1
  rw[Li]
  unfold putL
  rw[e1]
  by_cases c:x=name
  ·subst c
   rw[if_pos rfl,decide_eq_true rfl,if_pos rfl]
   exact⟨r.1,rv,r.2.2.1,r.2.2.2⟩
  ·rewrite[if_neg (fun q=>c (PV.str.inj q))];rw[decide_eq_false c,if_neg AD]
   exact⟨r.1,r.2.1,r.2.2.1,QU rv rk r.2.2.2 fun q m=>hs q (Af _ m)⟩
theorem Pl {name:Str}{v:PV}(hv:HP v=true):∀{es:List (PV×PV)},(∀q∈es,(∃x,q.1= .str x)∧HP q.2=true)→∀q∈put (.str name) v es,(∃x,q.1= .str x)∧HP q.2=true
 |[],_,q,m=>by have:=Ao.mp m;subst this;exact⟨⟨_,rfl⟩,hv⟩
 |(k,u)::es,hs,q,m=>by
  rw[Li] at m
  by_cases c:k= .str name
  ·rw[if_pos c] at m
   refine Ap (Aq.mp m) (fun z0=>?_) fun m=>?_;subst z0
   ·exact⟨⟨name,c⟩,hv⟩
   ·exact hs q (Af _ m)
  ·rw[if_neg c] at m
   refine Ap (Aq.mp m) (fun z0=>?_) fun m=>?_;subst z0
   ·exact hs _ (Ab ..)
   ·exact Pl hv (fun z mz=>hs z (Af _ mz)) q m
theorem NQ (P:Params)(name:Str):E9 P name=Bh P (.str name):=by
 first|rfl|simp[Bh,toW,hashW,E9]
section
variable {X:Ctx}{h:Heap}{H:AH}{s:Ad}{A:B2}{E:Ac→Ad→Prop}{d:Nat}{Q:PV→AH→Prop}{post:Ac→Ad→Prop}
theorem Own.isAttrs (O:Own X h H s){l:Addr}{es:List (PV×PV)}(e:H l=some (.attrs es)):∃ds n,s.heap.get? l=some (JQ ds n)∧DJ X.w.params h es ds∧∀q∈es,(∃x,q.1= .str x)∧HP q.2=true:=by
 refine AI (O.at e) fun o zr=>?_;refine Aw zr fun g zr=>?_;refine Cv zr fun ds n z2 r q=>?_;clear zr;subst z2
 exact FQ ds n g r q
theorem Q9 {h:Heap}{C a d:Addr}{o:Obj}(g:h.get? a=some (instObj C d))(gd:h.get? d=some o):InstAt h a (instObj C d) C (some o):=⟨g,rfl,rfl,gd⟩
theorem TU (x:X.In h)(O:Own X h H s){p:PV}{v:Ac}{name:Str}{expr:Bool}{K:PV→Prop}(r:AP h p v)(t:SK X name H K p)
  (k:∀q u tk,AP h q u→K q→post u {s with toks:=tk}):wpAny (model X.prog X.w) A (getAttr v name expr) post E s:=by
 induction p using Mine.Internal.PV.casesOn with
 |inst C a dd=>
  refine Aw (Ln r) fun z0 g=>?_;subst z0
  replace t:=CX t
  revert t;refine fun zq=>Aw zq fun hf t=>?_;clear zq
  have F:=x.fd _ _ hf
  replace t:=Rx t
  revert t;refine fun zq=>AB zq fun es e t=>?_;clear zq
  refine Cv (O.isAttrs e) fun ds n gd re hs=>?_
  replace t:Zx (Uw name es) K:=t
  rw[JG] at t
  cases en:EH (.str name) es with
  |none=>rw[en] at t;exact t.elim
  |some q=>
   rw[en] at t
   refine CP ((NP (name:=name) re hs).1 q en) fun u h1 h2 h3=>?_
   exact get_value (x.k.keeps O.keep) (Q9 (O.keep _ _ g) gd) (MZ F.get).1 (findObj_own F.dict F.none rfl (by rw[lookIn_dict _ _ _];exact h1)) (RK h2 h3) (k q u _ h2 t)
 |_=>exact t.elim
theorem FB (x:X.In h)(O:Own X h H s){C a dd f:Addr}{v:Ac}{name:Str}{es:List (PV×PV)}{pl:Sem Bool}{Q:Ac×List Ac→Ad→Prop}(r:AP h (.inst C a dd) v)(hm:X.meth C name=some f)(e:H dd=some (.attrs es))(en:EH (.str name) es=none)
  (k:Q (.ref f,[v]) s):wpAny (model X.prog X.w) A (getMethod v name pl) Q E s:=by
 refine Aw (Ln r) fun z0 g=>?_;subst z0
 have M:=x.mt _ _ _ hm
 refine Cv (O.isAttrs e) fun ds n gd re hs=>?_
 have h1:=(NP (name:=name) re hs).2 en
 exact method_fn (x.k.keeps O.keep) (Q9 (O.keep _ _ g) gd) (MZ M.get).1 (MZ M.get).2 M.find (beq_iff_eq.mp M.fn) (by refine(?_:(lookIn name (dictOf ds n)).map _=_);rw[lookIn_dict _ _ _,h1];rfl) k
theorem ah (x:X.In h)(O:Own X h H s){C a dd:Addr}{w:PV}{z:Ac}{name:Str}{tk:Tok}{es:List (PV×PV)}{R:Result→Ad→Prop}(g:h.get? a=some (instObj C dd))(F:FldOk X.K C name)(e:H dd=some (.attrs es))(rw_:AP h w z)(hw:HP w=true)(hl:es.length≤100)
  (k:∀s',Own X h (H.set dd (.attrs (put (.str name) w es))) s'→R (.ok (.ret .none)) s'):codeAny (model X.prog X.w) A (.call (.builtin "object.__setattr__") ⟨[.ref a, .str name tk,z],[]⟩) R s:=by
 refine Cv (O.isAttrs e) fun ds n gd re hs=>?_
 have I:=Q9 (O.keep _ _ g) gd
 have X0:=x.k.keeps O.keep
 refine AB (any_some F.dict) fun cd hc hd'=>?_
 refine osa_open X0 I F.over (show takerIn X.K C name=some none by unfold takerIn;rw[F.none];rfl) fun b=>?_
 refine A7 (A9 (A7 (A7 (wpAny_loadPart (O.keep _ _ g) (A7 ((looks_clsIn X0 hc).here ?_))))))
 rw[hd']
 refine A9 (a:=some dd) (A7 (A9 (A7 ?_)))
 refine A7 (A7 (D3 (A9 (A7 (wpAny_mkText (A7 (wpAny_loadPart gd ?_)))))))
 dsimp only
 have nref:ds.toArray.any (·.refKey)=false:=by
  rw[←Array.any_toList]
  have:∀{es:List (PV×PV)} {ds:List DictEntry},DJ X.w.params h es ds→(∀q∈es,(∃x,q.1= .str x)∧HP q.2=true)→ds.any (·.refKey)=false:=by
   intro es
   induction es with
   |nil=>intro ds r _;induction ds using Az with
    |nil=>rfl
    |cons _ _=>exact r.elim
   |cons q es ih=>
    intro ds r hs
    induction ds using Az with
    |nil=>exact r.elim
    |cons d ds=>
     rcases q with⟨k,v⟩
     refine Aw (hs _ (Ab ..)) fun z0 uu=>?_;refine AI z0 fun x z1=>?_;clear z0;subst z1
     have rk:d.refKey=false:=by refine AI (JH r.1) fun t e=>?_;unfold MI;rw[e];rfl
     rw[P3,rk,P5 _]
     exact ih r.2.2.2 fun q m=>hs q (Af _ m)
  exact this re hs
 rw[aRefKeyMayBeTheName_at _ _,nref,OF _]
 refine wpAny_updatePart gd ?_
 have pe:N1 name (E9 X.w.params name) (.str name s.toks) z (JQ ds n)=JQ (putL name (E9 X.w.params name) (.str name s.toks) z ds) (putN name ds n):=putName_dict ..
 have gd':(s.heap.update dd (N1 name (E9 X.w.params name) (.str name s.toks) z)).get? dd=some (JQ (putL name (E9 X.w.params name) (.str name s.toks) z ds) (putN name ds n)):=by
  rw[←pe]
  exact AK _ gd (by rw[pe];rfl)
 have rl:=QU (name:=name) (v:=w) (kv:= .str name s.toks) rw_ (by refine AP.s' ?_;exact⟨_,rfl⟩) re hs
 have ll:=rl.len
 have pl:=Q8 (k:= .str name) (v:=w) (es:=es)
 refine A7 (wpAny_lookBehind gd' (pastItsLine_dict (by rw[AE,AV,NQ _ _];exact(Al [_,_,_] 0x410000007850041520202126428102) hl ll pl)) ?_)
 refine A9 (k _ ((O.tok (s':={s with toks:=s.toks+1})).upd e (Au ..) ⟨_,gd',?_⟩))
 exact FQ _ _ rfl (by rw[NQ _ _];exact rl) (Pl hw hs)
theorem TW (x:X.In h)(O:Own X h H s){p w:PV}{v z:Ac}{name:Str}{K:AH→Prop}{post:Unit→Ad→Prop}(r:AP h p v)(rw_:AP h w z)(t:Lk X name w H K p)
  (k:∀s' H',Own X h H' s'→K H'→post () s'):wpAny (model X.prog X.w) A (setAttr v name z) post E s:=by
 induction p using Mine.Internal.PV.casesOn with
 |inst C a dd=>
  refine Aw (Ln r) fun z0 g=>?_;subst z0
  replace t:=CX t
  revert t;refine fun zq=>Aw zq fun hf t=>?_;clear zq
  have F:=x.fd _ _ hf
  replace t:=Rx t
  refine L6 t fun es e t1 t2 t3=>?_;clear t
  refine Cv (O.isAttrs e) fun ds n gd re hs=>?_
  rw[Nt] at t3
  exact set_plain (x.k.keeps O.keep) (Q9 (O.keep _ _ g) gd) F.set (ah x (O.tok (s':={s with toks:=s.toks+1})) g F e rw_ t2 t1 fun s' O'=>k s' _ O' t3)
 |_=>exact t.elim
end
end
section
open Classical
theorem RL {k v:PV}{es:List (PV×PV)}(h:Bw es)(kk:Cz k)(hl:es.length<100000):Bw (put k v es):=by
 refine M6 h fun h1 h2 h3 h4=>?_;clear h
 refine⟨?_,?_,by have:=Q8 (k:=k) (v:=v) (es:=es);exact Aa ‹_› ‹_›,?_⟩
 ·rw[HW]
  split
  ·exact h1
  ·exact Lp fun p m=>(B6.mp m).elim (fun m=>Dx h1 m) fun m=>by rw[Ao.mp m];exact kk.1
 ·rw[HW]
  split
  ·exact h2
  ·rename_i c
   exact BJ.mpr ⟨h2,BR.mpr ⟨by exact Be,CN⟩,fun a ha b hb e=>by rw[Ao.mp hb] at e;exact c (e▸ha)⟩
 ·rw[HW]
  split
  ·exact h4
  ·exact Lq fun p m=>(B6.mp m).elim (fun m=>Aa (Ef m) h4) fun m=>by rw[Ao.mp m];exact kk.2.1
theorem RM:Bw []:=⟨rfl,CN,AM _,AM _⟩
theorem K8:∀(a b es:List (PV×PV)),E1 (a++b) es=E1 b (E1 a es)
 |[],b,es=>rfl
 |(k,v)::a,b,es=>K8 a b (put k v es)
theorem Pm:∀(ps es:List (PV×PV)),Bw es→(∀q∈ps,Cz q.1)→es.length+ps.length≤90000→Bw (E1 ps es)∧(E1 ps es).length≤es.length+ps.length
 |[],es,h,_,_=>⟨h,Ak _⟩
 |(k,v)::ps,es,h,hk,hl=>by
  simp only[AQ] at hl
  have pl:=Q8 (k:=k) (v:=v) (es:=es)
  refine Aw (Pm ps (put k v es) (RL h (hk _ (Ab ..)) (by exact(Al [_,_] 0x186a058405015f90584150502) hl)) (fun q m=>hk q (Af _ m)) (by exact(Al [_,_,_] 0x15f9058105042500215f90584152502) hl pl)) fun h1 h2=>?_
  exact⟨h1,by exact(Al [_,_,_,_] 0x4251500235002415302) pl h2⟩
theorem MP:∀{vs:List PV} {ps:List (PV×PV)},Ed vs=some ps→vs=ps.map fun q=> .tup [q.1,q.2]
 |[],ps,e=>Ai e▸rfl
 |p::vs,ps,e=>by
  induction p using Mine.Internal.PV.casesOn with
  |tup l=>
   match l,e with
   |[],e=>exact CC e
   |[_],e=>exact CC e
   |_::_::_::_,e=>exact CC e
   |[a,b],e=>
    refine AB (Iq.mp (show(Ed vs).map ((a,b)::·)=some ps from e)) fun qs q z=>?_
    rw[←z,MP q]
    rfl
  |_=>exact CC e
theorem F6:entryFor table "dict.update.loop"=some Builtin.«dict.update.loop»:=I5 (by kernel_rfl)
theorem CY:plainId "dict.update.loop"=true:=by decide+kernel
theorem AH.set_set {H:AH}{a:Addr}{x y:PO}:(H.set a x).set a y=H.set a y:=by
 funext b
 by_cases q:b=a
 ·subst q;rw[AH.set_self _ _ _,AH.set_self _ _ _];rfl
 ·rw[AH.set_ne q,AH.set_ne q,AH.set_ne q];rfl
section
variable {X:Ctx}{h:Heap}{H:AH}{s:Ad}{A:B2}{E:Ac→Ad→Prop}{d:Nat}{Q:PV→AH→Prop}{post:Ac→Ad→Prop}
variable {R:Result→Ad→Prop}{I:Addr}{fp:List Addr}{items:List PV}{St:Nat→Ad→Prop}
theorem TX (x:X.In h)(W:WalksS X.prog X.w A.in1 I fp [I] (fun a b=>b=a) items.length (fun i v=>∃p,items[i]? =some p∧AP h p v) St)(D:Addr)(hDf:D∉fp)(hI:h.get? I=none)(HI:H I=none)(hID:I≠D)
  {ps:List (PV×PV)}(hp:items=ps.map fun q=> .tup [q.1,q.2])(hk:∀q∈ps,Cz q.1)(hb:ps.length≤10000)(hu:A.units+200<cLine):
  ∀(k i:Nat) (s:Ad) (n:Nat),items.length-i=k→i≤items.length→St i s→Own X h (H.set D (.dict (E1 (ps.take i) []) n)) s→
   (∀s' n',Own X h (H.set D (.dict (E1 ps []) n')) s'→R (.ok (.ret .none)) s')→codeAny (model X.prog X.w) A (.builtin "dict.update.loop" ⟨[.ref D, .ref I,rawInt i, .none],[]⟩) R s:=by
 have hl:items.length=ps.length:=by rw[hp];simp
 have mv:∀{s s':Ad} {es:List (PV×PV)} {n:Nat},Own X h (H.set D (.dict es n)) s→Moved [I] (fun a b=>b=a) s s'→Own X h (H.set D (.dict es n)) s':=fun{s s' es n} O m=>by
  refine O.walked (L:=[I]) (fun b hb=>?_) m.heap (m.gens.trans O.gens) (m.os.trans O.os) ?_
  ·rw[Ao.mp hb]
   exact⟨hI,by rw[AH.set_ne hID];exact HI⟩
  ·rcases x.lo with⟨a,oa,la,ga⟩
   exact Aa la (AU (Ax (m.heap a oa (by simp only[Ao];intro q;rw[q,hI] at ga;exact CC ga) (O.keep _ _ ga))))
 intro k
 induction k with
 |zero=>
  intro i s n hki hi hst O hR
  have hin:i=items.length:=by exact(Al [_,_] 0x1011002701612) hki hi
  subst hin
  refine BZ F6 ?_
  rw[Cr CY _]
  refine(?_:wpAny _ A.in1 (pyNext (.ref I)>>=_) _ _ s)
  refine A7 (W.done s _ _ hst fun s' hm=>?_)
  have O':=mv O hm
  rw[hl,FP] at O'
  refine(?_:wpAny _ A.in1 (Builtin.Dict.addKeywords D []>>=_) _ _ s')
  refine A7 (A9 ?_)
  refine(?_:wpAny _ A.in1 (ret Bl) _ _ s')
  exact A9 (hR s' n O')
 |succ k ih=>
  intro i s n hki hi hst O hR
  have hlt:i<items.length:=by exact(Al [_,_,_] 0x1405042501612) hki
  refine BZ F6 ?_
  rw[Cr CY _]
  refine(?_:wpAny _ A.in1 (pyNext (.ref I)>>=_) _ _ s)
  refine A7 (W.item i s _ _ hlt hst fun v s' hP hst' hm=>?_)
  have O':=mv O hm
  refine AB hP fun p ep rp=>?_;clear hP
  have lp:i<ps.length:=by exact(Al [_,_,_] 0x140502405021212) hl hlt
  have e1:p= .tup [ps[i].1,ps[i].2]:=by
   rw[hp,Bc,Ah lp] at ep
   exact(Ai ep).symm
  subst e1
  refine Md rp fun a xs g r=>?_
  match xs,r with
  |[],r=>exact AF r
  |[_],r=>replace r:=AG.c r;exact r.2.elim
  |_::_::_::_,r=>replace r:=AG.c r;exact r.2.2.elim
  |[kv,u],r=>
   replace r:=AG.c r
   have g':=O'.keep _ _ g
   have hT:s'.TypeIs (.ref a) "tuple":=⟨_,g',rfl⟩
   refine A7 (Ay ?_)
   refine A7 ?_
   have pi:∀(E':Ac→Ad→Prop) (Q':List Ac→Ad→Prop),Q' [kv,u] s'→wpAny (model X.prog X.w) A.in1 (Builtin.Dict.pairItems (.ref a)) Q' E' s':=fun E' Q' hq=>by
    refine A7 (Fp hT ?_)
    rw[if_pos (by decide)]
    refine A7 (DC g' rfl ?_)
    exact A9 hq
   refine wpAny_tryCatch (pi _ _ ?_)
   have ko:=Pm (ps.take i) [] RM (fun q m=>hk q (G2 m)) (by simp;exact(Al [_,_] 0x15f905810c0271048102) hb)
   refine Ay (NA O' (by rw[AH.set_self _ _ _];rfl) ko.1 (hk _ (CG lp)) r.1 r.2.1 (by refine(?_:A.units+1+100<cLine);exact(Al [_,_] 0x14642840555014c82805502) hu) fun h' tk htk sb O2=>?_)
   have O3:∃n2,Own X h (H.set D (.dict (E1 (ps.take (i+1)) []) n2)) {s' with heap:=h',toks:=tk}:=by
    rw[AH.set_set] at O2
    rw[Fk,Ah lp,K8 _ _ _]
    exact⟨_,O2⟩
   revert O3;refine fun zq=>AI zq fun n2 O3=>?_;clear zq
   refine A9 ⟨EF CY _,?_⟩
   have:=ih (i+1) {s' with heap:=h',toks:=tk} n2 (by exact(Al [_,_,_] 0x241506142510612) hki) hlt (W.frame _ s' _ _ hst' htk fun b hb o e=>(sb.2 b (fun q=>hDf (q▸hb))).trans e) O3 hR
   have e2:rawInt ((i+1:Nat):Int)=rawInt ((i:Int)+1):=by exact rfl
   rw[e2] at this
   exact this
theorem Yj (x:X.In h)(O:Own X h H s){l:Addr}{vs:List PV}{ps:List (PV×PV)}(e:H l=some (.list vs))(ep:Ed vs=some ps)(hk:∀q∈ps,Cz q.1)(hb:ps.length≤10000)(hA:A.handled=X.exc.map .ref)(hu:A.units+400<cLine)(P:EG X h Q post)
  (t:∀c n,H c=none→Q (.loc c) (H.set c (.dict (E1 ps []) n))):wpAny (model X.prog X.w) A (call (.type "dict") [.ref l]) post E s:=by
 refine callType_codes (Q₁:=fun obj s₁=>obj= .ref s.heap.objs.size∧s₁={s with heap:=s.heap.push {cls:= .type "dict",data:= .dict #[]}}) F.kt_called_dict (F.kt_typeCall_dict_1 _) F.entry_dict_init (kt_code_dict_new _ ⟨rfl,rfl⟩) ?_
 intro obj s₁ z22;refine Aw z22 fun z0 z1=>?_;clear z22;subst z0;subst z1
 have O1:=O.pushT (o:=JQ [] 0) (po:= .dict [] 0) ⟨[],rfl,trivial⟩
 have hD:h.get? s.heap.objs.size=none:=by
  cases z:h.get? s.heap.objs.size with
  |none=>rfl
  |some y=>exact absurd (Ax (O.keep _ _ z)) (BO _)
 have hTd:HK {s with heap:=s.heap.push {cls:= .type "dict",data:= .dict #[]}} (.ref s.heap.objs.size) "dict":=⟨_,Ar _ rfl,rfl⟩
 have hls:l≠s.heap.objs.size:=fun q=>by rw[q,O.fresh] at e;exact CC e
 have e1:(H.set s.heap.objs.size (.dict [] 0)) l=some (.list vs):=by rw[AH.set_ne hls];exact e
 have ev:=MP ep
 refine BT (O1.isList e1) fun xs nl g rr=>?_
 have hTl:HK {s with heap:=s.heap.push {cls:= .type "dict",data:= .dict #[]}} (.ref l) "list":=⟨_,g,rfl⟩
 refine⟨hTd,F.args_dict_init_2 _ _,?_⟩
 refine A7 ?_
 refine A7 (D9 hTd ?_)
 refine(?_:wpAny _ _ (pure (s.heap.objs.size,[BY l])) _ _ _)
 refine A9 ?_
 refine(?_:wpAny _ _ (Builtin.Dict.updateFrom "dict.__init__" s.heap.objs.size (.ref l) [] .none) _ _ _)
 refine A7 (Fp hTl ?_)
 rw[if_pos (by decide)]
 refine A7 (getAttr?_miss (hd:=X.exc) g (am_miss_of_fast (by decide+kernel)) (by decide+kernel) hA (DT.keeps x.ex O1.keep) (fun h' tk kp=>?_) (by decide))
 have O2:Own X h (H.set s.heap.objs.size (.dict [] 0)) {s with heap:=h',toks:=tk}:=O1.grown x kp rfl rfl
 rewrite[if_pos (by rfl)]
 refine A7 (Cs ?_)
 refine A7 ?_
 refine V2 (v:= .ref l) x (O2.mono (H':=H) fun a po z=>by
   by_cases q:a=s.heap.objs.size
   ·rw[q,O.fresh] at z;exact CC z
   ·rw[AH.set_ne q];exact z) [s.heap.objs.size] (fun b hb=>by
    rw[Ao.mp hb]
    exact⟨hD,O.fresh,Ax (kp _ _ (Ar _ rfl))⟩) (p:= .loc l) (K:=fun ok items=>items=vs) (by refine AP.l' ?_;rfl) ?_ ?hh fun I s₂ items St ok hK W st kp2 hI HI hI2 hI3 uu own=>?_
 case hh=>exact hA
 ·refine(?_:Ni (H _) _ _)
  rw[e]
  exact⟨by rw[ev];simp;exact Aa ‹_› (by decide),rfl⟩
 subst hK
 have hID:I≠s.heap.objs.size:=fun q=>by
  rw[q] at hI2
  exact absurd (Ax (kp _ _ (Ar _ rfl))) (Dv.mpr hI2)
 refine A9 ⟨EF CY _,?_⟩
 have O3:Own X h (H.set s.heap.objs.size (.dict (E1 (ps.take 0) []) 0)) s₂:=by
  have o2:=own s₂ (fun b ob uu e=>e) rfl rfl
  exact o2.watch (o:=JQ [] 0) hD (kp2 _ _ (kp _ _ (Ar _ rfl))) ⟨[],rfl,trivial⟩ O.lo
 refine TX x (W _ ?hW) s.heap.objs.size (by simp) hI HI hID ev hk hb ?hu (items.length-0) 0 s₂ 0 rfl (AM _) st O3 fun s' n' O4=>?_
 case hW=>exact hA
 case hu=>refine(?_:A.units+1+200<cLine);exact(Al [_,_] 0x14c828405550141903805502) hu
 exact⟨rfl,P.here O4 (by refine AP.l' ?_;rfl) (t _ _ O.fresh)⟩
end
end
section
open Classical
section
variable {X:Ctx}{h:Heap}{H:AH}{s:Ad}{A:B2}{E:Ac→Ad→Prop}{d:Nat}{Q:PV→AH→Prop}{post:Ac→Ad→Prop}
theorem SX {h:Heap}{a:PV}{vs:List Ac}(r:AG h [a] vs):∃u,vs=[u]∧AP h a u:=by
 match vs,r with
 |[],r=>exact AF r
 |[u],r=>replace r:=AG.c r;exact⟨u,rfl,r.1⟩
 |_::_::_,r=>replace r:=AG.c r;exact r.2.elim
theorem QV {h:Heap}{a b:PV}{vs:List Ac}(r:AG h [a,b] vs):∃u v,vs=[u,v]∧AP h a u∧AP h b v:=by
 match vs,r with
 |[],r=>exact AF r
 |[_],r=>replace r:=AG.c r;exact r.2.elim
 |[u,v],r=>replace r:=AG.c r;exact FQ u v rfl r.1 r.2.1
 |_::_::_::_,r=>replace r:=AG.c r;exact r.2.2.elim
theorem XC {h:Heap}{a b c:PV}{vs:List Ac}(r:AG h [a,b,c] vs):∃u v w,vs=[u,v,w]∧AP h a u∧AP h b v∧AP h c w:=by
 induction vs using Az with
 |nil=>exact AF r
 |cons u vs=>
  replace r:=AG.c r
  refine BT (QV r.2) fun v w z2 x=>?_;subst z2
  exact bz u v w rfl r.1 x
theorem ai {h:Heap}{vs:List Ac}(r:AG h [] vs):vs=[]:=by
 match vs,r with
 |[],r=>rfl
 |_::_,r=>exact AF r
theorem QW {ps:List (PV×PV)}(hd:C9 (ps.map (·.1))=true)(hdp:B_ (ps.map (·.1))≤7)(hi:∀q∈ps,b5 q.1=true):∀q∈ps,Cz q.1:=
 fun q m=>⟨Dx hd (Bk m),Aa (Ef (Bk m)) hdp,hi q m⟩
theorem Vh {h':Heap}{a:Int}{n:Nat}{acc:Array Ac}(hacc:ItemsOf (fun i v=>∃t,v= .int (a+i*1) t) acc n):AG h' ((Am n).map fun i=> .int (a+BQ i)) acc.toList:=by
 refine Aw hacc fun hs hi=>?_;clear hacc
 have:∀(ps:List PV) (xs:List Ac),ps.length=xs.length→(∀(i:Nat) (p:PV) (v:Ac),ps[i]? =some p→xs[i]? =some v→AP h' p v)→AG h' ps xs:=by
  intro ps
  induction ps with
  |nil=>intro xs e _;induction xs using Az with
   |nil=>exact AG.n
   |cons _ _=>simp at e
  |cons p ps ih=>
   intro xs e k
   induction xs using Az with
   |nil=>simp at e
   |cons x xs=>
    refine AG.d ?_
    exact⟨k 0 p x rfl rfl,ih xs (by simpa using e) fun i p' v' e1 e2=>k (i+1) p' v' (by simpa using e1) (by simpa using e2)⟩
 refine this _ _ (by simp[hs]) fun i p v e1 e2=>?_
 simp only[Bc] at e1
 by_cases c:i<n
 ·rw[Dy c] at e1
  simp only[By,Bs] at e1
  subst e1
  refine AI (hi i v (by simpa using e2)) fun t z1=>?_;subst z1
  refine AP.i' ?_
  exact⟨t,by simp⟩
 ·exfalso
  rw[Bg (by simp;exact(Al [_,_] 0x10050415022) c)] at e1
  exact CC e1
theorem cu {b:BI}{ps:List PV}{vs:List Ac}(x:X.In h)(O:Own X h H s)(r:AG h ps vs)(ok:Lh X d A)(P:EG X h Q post)(t:ZN X b ps H Q):
  wpAny (model X.prog X.w) A (call b.val vs) post E s:=by
 have hu:=ok.lt
 have hA:=ok.2.2
 have one:∀{K:PV→Prop},x1 ps K→∃p u,vs=[u]∧AP h p u∧K p:=fun z=>by
  replace z:=PM z
  revert z;refine fun zq=>AB zq fun p z1 z=>?_;clear zq;subst z1
  refine AB (SX r) fun u z1 r1=>?_;subst z1
  exact FQ p u rfl r1 z
 have onl:∀{K:List PV→Prop},x1 ps (Zh H K)→∃l us,vs=[.ref l]∧H l=some (.list us)∧K us:=fun z=>by
  refine Cv (one z) fun p u z2 r1 z=>?_;subst z2
  replace z:=Ii z
  revert z;refine fun zq=>AB zq fun l z1 z=>?_;clear zq;subst z1
  replace z:=Kn z
  revert z;refine fun zq=>AB zq fun us e z=>?_;clear zq
  cases C6 r1
  exact FQ l us rfl e z
 induction b using Mine.Internal.BI.casesOn with
 |len=>
  refine Cv (one t) fun p u z2 r1 t=>?_;subst z2
  exact a8 O r1 P t
 |range=>
  replace t:UN H Q ps:=t
  rcases ps with _|⟨p,_|⟨q,_|_⟩⟩
  ·exact t.elim
  ·refine AB (SX r) fun u z1 r1=>?_;subst z1
   replace t:=Dm t
   revert t;refine fun zq=>AB zq fun n z1 t=>?_;clear zq;subst z1
   exact V3 O r1 P t.2
  ·refine Cv (QV r) fun u v z2 ra rb=>?_;subst z2
   replace t:=Dm t
   revert t;refine fun zq=>AB zq fun a z1 t=>?_;clear zq;subst z1
   replace t:=Dm t
   revert t;refine fun zq=>AB zq fun n z1 t=>?_;clear zq;subst z1
   exact V4 O ra rb P t.2.2
  ·exact t.elim
 |sorted=>
  refine Cv (one t) fun p u z2 r1 t=>?_;subst z2
  replace t:=Ii t
  revert t;refine fun zq=>AB zq fun l z1 t=>?_;clear zq;subst z1
  cases C6 r1
  exact Vf x O hA (by exact(Al [_,_] 0x14190380550141f43805502) hu) P t
 |sum=>
  refine Cv (onl t) fun l us z2 e t=>?_;subst z2
  replace t:UK (kP Q H) (Dn us):=t
  cases e':Dn us with
  |none=>rw[e'] at t;exact t.elim
  |some is=>rw[e'] at t;exact a9 x O e e' t.1 hA P t.2
 |max=>
  refine Cv (onl t) fun l us z2 e t=>?_;subst z2
  replace t:UL (kP Q H) (Dn us):=t
  rcases e':Dn us with _|(_|⟨i,is⟩)
  ·rw[e'] at t;exact t.elim
  ·rw[e'] at t;exact t.elim
  ·rw[e'] at t;exact aa x O e e' t.1 hA P t.2
 |tuple=>
  refine Cv (one t) fun p u z2 r1 t=>?_;subst z2
  induction p using Mine.Internal.PV.casesOn with
  |tup us=>exact PY O r1 P t
  |loc l=>
   replace t:=Kn t
   revert t;refine fun zq=>AB zq fun us e t=>?_;clear zq
   cases C6 r1
   exact WG x O e t.1 P t.2
  |_=>exact t.elim
 |list=>
  refine Cv (one t) fun p u z2 r1 t=>?_;subst z2
  induction p using Mine.Internal.PV.casesOn with
  |rng a n=>
   replace r1:=AP.g r1
   refine Tr r1 fun ra t1 t2 t3 z4 g=>?_;clear r1;subst z4
   revert t;refine fun zq=>Eb zq fun he ha hn hd t=>?_;clear zq
   have e0:Builtin.Range.rangeSize a n 1=((n-a).toNat:Nat):=by rw[Kd _ _];split<;>x_go
   refine call_list_range (by rw[hA,he];rfl) (O.keep _ _ g) (ML ha hn) e0 (by x_go) fun h' tk acc' c' hk hS' hacc=>?_
   have O2:Own X h H {s with heap:=h',toks:=tk}:=(O.grown x (s':={s with heap:=h'}) hk rfl rfl).tok
   have hnone:h.get? s.heap.objs.size=none:=by
    cases z:h.get? s.heap.objs.size with
    |none=>rfl
    |some o=>exact absurd (Ax (O.keep _ _ z)) (BO _)
   refine P.here (O2.watch (po:= .list _) hnone hS' ⟨acc'.toList,c',rfl,Vh hacc⟩ O.lo) (by refine AP.l' ?_;rfl) (t _ O.fresh)
  |_=>exact t.elim
 |set=>
  refine Cv (onl t) fun l us z2 e t=>?_;subst z2
  exact af x O e t.1 t.2.1 t.2.2.1 t.2.2.2.1 hA (by exact(Al [_,_] 0x14190380550141f43805502) hu) P t.2.2.2.2
 |dict=>
  refine Cv (onl t) fun l us z2 e t=>?_;subst z2
  replace t:UM H Q (Ed us):=t
  cases e':Ed us with
  |none=>rw[e'] at t;exact t.elim
  |some qs=>rw[e'] at t;exact Yj x O e e' (QW t.1 t.2.1 t.2.2.1) t.2.2.2.1 hA (by exact(Al [_,_] 0x14190380550141f43805502) hu) P t.2.2.2.2
 |int=>
  refine Cv (one t) fun p u z2 r1 t=>?_;subst z2
  induction p using Mine.Internal.PV.casesOn with
  |int i=>
   refine EJ r1 fun t1=>?_
   exact call_int_int (P.here O.tok (by refine AP.i' ?_;exact⟨_,rfl⟩) t)
  |bool c=>
   cases Lm r1
   exact call_int_bool (P.here O.tok (by refine AP.i' ?_;exact⟨_,rfl⟩) t)
  |_=>exact t.elim
 |abs=>
  refine Cv (one t) fun p u z2 r1 t=>?_;subst z2
  replace t:=Dm t
  revert t;refine fun zq=>AB zq fun i z1 t=>?_;clear zq;subst z1
  refine EJ r1 fun t1=>?_
  refine call_abs_int fun u tk=>P.here (p:= .int (BQ i.natAbs)) O.tok ?_ t
  have:(if i<0 then -i else i)=BQ i.natAbs:=by refine(?_:_=((i.natAbs:Nat):Int));split<;>x_go
  rw[this];refine AP.i' ?_;exact⟨_,rfl⟩
 |str=>
  refine Cv (one t) fun p u z2 r1 t=>?_;subst z2
  replace t:=Dm t
  revert t;refine fun zq=>AB zq fun i z1 t=>?_;clear zq;subst z1
  refine EJ r1 fun t1=>?_
  refine str_of_int_fit (N:=4611686018427387904) (by have:=t.1;unfold small at this;split<;>x_go) (Int.le_refl _) fun uu=>P.here O.tok (by refine AP.s' ?_;exact⟨_,rfl⟩) t.2
 |_=>exact t.elim
end
end
section
open Classical
def xt:Expr→Nat
 | .Starred .. =>1
 | .Set .. =>2
 | .ListComp .. =>3
 | .SetComp .. =>3
 | .DictComp .. =>3
 | .Call .. =>4
 | .Name .. =>5
 | .Attribute .. =>6
 | .Subscript .. =>7
 | .List .. =>8
 | .Tuple .. =>9
 |_=>0
def GA (e:Expr):Bool:=xt e == 5||(xt e == 6||xt e == 7)
def NR (e:Expr):Bool:= !(xt e == 2)
theorem Lu {e:Expr}(h:NR e=true):Jb e=false:=by induction e using AA<;>first|rfl|cases h
def Vi:List Expr→Bool
 |[]=>true
 |e::r=> !(xt e == 1)&&Vi r
theorem Pn:∀{es:List Expr},Vi es=true→EI es=true
 |[],_=>rfl
 |e::r,h=>by
  have h:=Ae.mp h
  refine Ae.mpr ⟨?_,Pn h.2⟩
  replace h:=h.1
  induction e using AA<;>first|rfl|cases h
def HX (es:List Expr):Bool:=Vi es&&Qx es 5
theorem F7 {es:List Expr}(h:HX es=true):Zi es=true:=by
 have h:=Ae.mp h
 exact Ae.mpr ⟨Pn h.1,h.2⟩
def am (o:Expr)(as:List Expr)(p q:Pos):Bool:=GA o&&(HX as&&p.endLine == q.line)
def Yk:ScopeKind→Bool
 | .function=>true
 |_=>false
def cv (k:Int)(i:Expr)(sco:Scope)(sc:SC):Bool:=k == 0&&(NR i&&(Yk sco.kind&&Fz sco.names sc))
mutual
noncomputable def vE (X:Ctx)(d:Nat):Expr→SC→LM→AH→(PV→AH→Prop)→Prop
 | .Constant c _ _,_,_,H,Q=>Nr c fun p=>Q p H
 | .Name x _,sc,m,H,Q=>FR X sc m x fun p=>Q p H
 | .BoolOp op vs _,sc,m,H,Q=>vB X d op vs sc m H Q
 | .BinOp l op r _,sc,m,H,Q=>vE X d l sc m H fun a H=>vE X d r sc m H fun b H=>UI op a b H Q
 | .UnaryOp op e _,sc,m,H,Q=>vE X d e sc m H fun a H=>b6 op a H Q
 | .IfExp t b o _,sc,m,H,Q=>vT X d t sc m H fun c H=>if c then vE X d b sc m H Q else vE X d o sc m H Q
 | .Compare l ops rs _,sc,m,H,Q=>vE X d l sc m H fun a H=>Wr X d ops rs a sc m H fun c H=>Q (.bool c) H
 | .Call (.Attribute o name ap) args [] cp,sc,m,H,Q=>gd (am o args ap cp) (vE X d o sc m H fun p H=>Pb X d name H (fun K=>Ml X d args sc m H K) Q p)
 | .Call (.Name x _) args [] _,sc,m,H,Q=>gd (ZT (kd x sc)&&HX args) (FR X sc m x fun p=>Ml X d args sc m H fun ps H=>P9 X d ps H Q p)
 | .Attribute o name _,sc,m,H,Q=>gd (GA o) (vE X d o sc m H fun p H=>SK X name H (kP Q H) p)
 | .Subscript o i _,sc,m,H,Q=>vE X d o sc m H fun p H=>match ED i with
   |some sl=>Ko X sl H Q p
   |none=>vE X d i sc m H fun q H=>P8 q H (kP Q H) p
 | .List es _,sc,m,H,Q=>gd (HX es) (Ml X d es sc m H fun ps H=>∀c,H c=none→Q (.loc c) (H.set c (.list ps)))
 | .Tuple es _ _,sc,m,H,Q=>gd (HX es) (Ml X d es sc m H fun ps H=>Q (.tup ps) H)
 | .Dict [] [] _,_,_,H,Q=>∀c,H c=none→Q (.loc c) (H.set c (.dict [] 0))
 | .ListComp elt [⟨t,i,ifs,as⟩] scope _,sc,m,H,Q=>gd (cv as i scope sc) (vE X d i sc m H fun src H=>IF H (fun ok items=>
   Fu ok (fun p m H K=>SY X d t scope.names p m H K)
    (fun acc m H K=>Vj X d ifs scope.names m H fun c H=>if c then vE X d elt scope.names m H fun p H=>acc.length≤100000∧K (acc++[p]) m H else K acc m H)
    items [] (Dw scope.names++m) H fun out uu H=>∀c,H c=none→Q (.loc c) (H.set c (.list out))) src)
 |_,_,_,_,_=>False
noncomputable def Ml (X:Ctx)(d:Nat):List Expr→SC→LM→AH→(List PV→AH→Prop)→Prop
 |[],_,_,H,K=>K [] H
 |e::r,sc,m,H,K=>vE X d e sc m H fun p H=>Ml X d r sc m H fun ps H=>K (p::ps) H
noncomputable def vB (X:Ctx)(d:Nat)(op:BoolOp):List Expr→SC→LM→AH→(PV→AH→Prop)→Prop
 |[],_,_,_,_=>False
 |[e],sc,m,H,Q=>vE X d e sc m H Q
 |e::r,sc,m,H,Q=>vE X d e sc m H fun p H=>G7 p fun b=>if b=(op == .Or) then Q p H else vB X d op r sc m H Q
noncomputable def Wr (X:Ctx)(d:Nat):List CmpOp→List Expr→PV→SC→LM→AH→(Bool→AH→Prop)→Prop
 |[op],[r],a,sc,m,H,K=>gd (NR r) (vE X d r sc m H fun b H=>Qw X op a b H fun c=>K c H)
 |op::Mb::ops,r::r2::rs,a,sc,m,H,K=>gd (NR r) (vE X d r sc m H fun b H=>Qw X op a b H fun c=>if c then Wr X d (Mb::ops) (r2::rs) b sc m H K else K false H)
 |_,_,_,_,_,_,_=>False
noncomputable def vT (X:Ctx)(d:Nat):Expr→SC→LM→AH→(Bool→AH→Prop)→Prop
 | .UnaryOp .Not e _,sc,m,H,K=>vT X d e sc m H fun b H=>K (!b) H
 | .BoolOp op vs _,sc,m,H,K=>XD X d op vs sc m H K
 | .Compare l ops rs _,sc,m,H,K=>vE X d l sc m H fun a H=>Wr X d ops rs a sc m H K
 | .IfExp _ _ _ _,_,_,_,_=>False
 | .Name x _,sc,m,H,K=>FR X sc m x fun p=>G7 p fun b=>K b H
 | .Constant c _ _,_,_,H,K=>Nr c fun p=>G7 p fun b=>K b H
 | .Call (.Attribute o name ap) args [] cp,sc,m,H,K=>gd (am o args ap cp) (vE X d o sc m H fun p H=>Pb X d name H (fun K=>Ml X d args sc m H K) (fun p H=>G7 p fun b=>K b H) p)
 | .Call (.Name x _) args [] _,sc,m,H,K=>gd (ZT (kd x sc)&&HX args) (FR X sc m x fun p=>Ml X d args sc m H fun ps H=>P9 X d ps H (fun p H=>G7 p fun b=>K b H) p)
 |_,_,_,_,_=>False
noncomputable def XD (X:Ctx)(d:Nat)(op:BoolOp):List Expr→SC→LM→AH→(Bool→AH→Prop)→Prop
 |[],_,_,H,K=>K (op == .And) H
 |e::r,sc,m,H,K=>vT X d e sc m H fun b H=>if b=(op == .Or) then K b H else XD X d op r sc m H K
noncomputable def Vj (X:Ctx)(d:Nat):List Expr→SC→LM→AH→(Bool→AH→Prop)→Prop
 |[],_,_,H,K=>K true H
 |[e],sc,m,H,K=>vT X d e sc m H K
 |_,_,_,_,_=>False
noncomputable def SY (X:Ctx)(d:Nat):Expr→SC→PV→LM→AH→(LM→AH→Prop)→Prop
 | .Name x _,sc,p,m,H,K=>gd (bf (kd x sc)) (K (Wo x p m) H)
 | .Attribute o name _,sc,p,m,H,K=>gd (GA o) (vE X d o sc m H fun q H=>Lk X name p H (K m) q)
 | .Subscript o i _,sc,p,m,H,K=>gd (ED i).isNone (vE X d o sc m H fun q H=>vE X d i sc m H fun j H=>Ja q j p H (K m))
 | .Tuple ts _ _,sc,p,m,H,K=>match Tw p H with
   |some ps=>ts.length=ps.length∧gd (HX ts) (JR X d ts sc ps m H K)
   |none=>False
 |_,_,_,_,_,_=>False
noncomputable def JR (X:Ctx)(d:Nat):List Expr→SC→List PV→LM→AH→(LM→AH→Prop)→Prop
 |[],_,[],m,H,K=>K m H
 |t::ts,sc,p::ps,m,H,K=>SY X d t sc p m H fun m H=>JR X d ts sc ps m H K
 |_,_,_,_,_,_=>False
end
def NS (t e:Expr):Bool:=match xt t with
 |5=> !(xt e == 3)
 |6=> !(xt e == 3)
 |7=> !(xt e == 3)
 |9=>xt e == 4||xt e == 5
 |_=>false
def NT:Expr→Option (Str×Pos)
 | .Name x p=>some (x,p)
 |_=>none
theorem NU {e:Expr}{x:Str×Pos}(h:NT e=some x):e= .Name x.1 x.2:=by induction e using AA<;>first|exact CC h|(rw[←Ai h] at ⊢)
def NV:Expr→Option (List Expr)
 | .Tuple es _ _=>some es
 |_=>none
theorem Po {e:Expr}{es:List Expr}(h:NV e=some es):∃k p,e= .Tuple es k p:=by induction e using AA<;>first|exact CC h|exact Wx _ _ (congrArg (Expr.Tuple · _ _) (Ai h))
def Vk (sc:SC):Option (Str×Pos)→Option (Str×Pos)→Bool
 |some a,some b=>cf (kd a.1 sc)&&(cf (kd b.1 sc)&&(M4 b.2.line a.2.line&& !same a.1 b.1))
 |_,_=>false
def SZ:List Expr→List Expr→SC→Bool
 |[t,u],[e,f],sc=>xt e == 4&&(xt f == 8&&Vk sc (NT t) (NT u))
 |_,_,_=>false
def Yl (f:Fl)(go stop:Prop):Prop:=match f with
 | .next=>go
 |_=>stop
def Ym (X:Ctx)(d:Nat)(t e:Expr)(sc:SC)(m:LM)(H:AH)(Q:Fl→LM→AH→Prop):Option (List Expr)→Option (List Expr)→Prop
 |some ts,some vs=>gd (SZ ts vs sc&&HX vs) (Ml X d vs sc m H fun ps H=>JR X d ts.reverse sc ps.reverse m H fun m H=>Q .next m H)
 |_,_=>gd (NS t e) (vE X d e sc m H fun p H=>SY X d t sc p m H fun m H=>Q .next m H)
mutual
noncomputable def vS (X:Ctx)(d:Nat):Stmt→SC→LM→AH→(Fl→LM→AH→Prop)→Prop
 | .Expr (.Call f as ks p) _,sc,m,H,Q=>vE X d (.Call f as ks p) sc m H fun uu H=>Q .next m H
 | .Assign [t] e _,sc,m,H,Q=>Ym X d t e sc m H Q (NV t) (NV e)
 | .If t b o _,sc,m,H,Q=>vT X d t sc m H fun c H=>if c then NW X d b sc m H Q else NW X d o sc m H Q
 | .While t b [] _,sc,m,H,Q=>∃n,Ij (fun m H K=>vT X d t sc m H K) (fun m H K=>NW X d b sc m H K) n m H Q
 | .For t i b [] _,sc,m,H,Q=>gd (NR i) (vE X d i sc m H fun src H=>IF H (fun ok items=>
   Hh ok (fun p m H K=>SY X d t sc p m H K) (fun m H K=>NW X d b sc m H K) items m H Q) src)
 | .Return (some e) _,sc,m,H,Q=>vE X d e sc m H fun p H=>Q (.ret p) m H
 | .Return none _,_,m,H,Q=>Q (.ret .none) m H
 | .Pass _,_,m,H,Q=>Q .next m H
 | .Break _,_,m,H,Q=>Q .brk m H
 | .Continue _,_,m,H,Q=>Q .cont m H
 |_,_,_,_,_=>False
noncomputable def NW (X:Ctx)(d:Nat):List Stmt→SC→LM→AH→(Fl→LM→AH→Prop)→Prop
 |[],_,m,H,Q=>Q .next m H
 |s::r,sc,m,H,Q=>vS X d s sc m H fun f m H=>Yl f (NW X d r sc m H Q) (Q f m H)
end
end
section
open Classical
abbrev QS:=Fl→LM→AH→Prop
abbrev QB:=Bool→AH→Prop
abbrev QL:=List PV→AH→Prop
section
variable (X:Ctx)(d:Nat)
def d8 (op:Operator)(a:PV)(Q:QE)(b:PV)(H:AH):Prop:=UI op a b H Q
def d9 (op:Operator)(r:Expr)(sc:SC)(m:LM)(Q:QE)(a:PV)(H:AH):Prop:=vE X d r sc m H (d8 op a Q)
def kU (op:UnaryOp)(Q:QE)(a:PV)(H:AH):Prop:=b6 op a H Q
def bj (b o:Expr)(sc:SC)(m:LM)(Q:QE)(c:Bool)(H:AH):Prop:=if c then vE X d b sc m H Q else vE X d o sc m H Q
def db (Q:QE)(c:Bool)(H:AH):Prop:=Q (.bool c) H
def cw (ops:List CmpOp)(rs:List Expr)(sc:SC)(m:LM)(K:QB)(a:PV)(H:AH):Prop:=Wr X d ops rs a sc m H K
def NX (as:List Expr)(sc:SC)(m:LM)(H:AH)(K:QL):Prop:=Ml X d as sc m H K
def Vl (name:Str)(as:List Expr)(sc:SC)(m:LM)(Q:QE)(p:PV)(H:AH):Prop:=Pb X d name H (NX X d as sc m H) Q p
def XE (p:PV)(Q:QE)(ps:List PV)(H:AH):Prop:=P9 X d ps H Q p
def df (as:List Expr)(sc:SC)(m:LM)(H:AH)(Q:QE)(p:PV):Prop:=Ml X d as sc m H (XE X d p Q)
def dg (name:Str)(Q:QE)(p:PV)(H:AH):Prop:=SK X name H (kP Q H) p
def cx (p:PV)(Q:QE)(q:PV)(H:AH):Prop:=P8 q H (kP Q H) p
def di (i:Expr)(sc:SC)(m:LM)(Q:QE)(p:PV)(H:AH):Option Sl→Prop
 |some sl=>Ko X sl H Q p
 |none=>vE X d i sc m H (cx p Q)
def bl (i:Expr)(sc:SC)(m:LM)(Q:QE)(p:PV)(H:AH):Prop:=di X d i sc m Q p H (ED i)
def Yn (Q:QE)(ps:List PV)(H:AH):Prop:=∀c,H c=none→Q (.loc c) (H.set c (.list ps))
def ao (Q:QE)(ps:List PV)(H:AH):Prop:=Q (.tup ps) H
def Lv (t:Expr)(sc:SC)(p:PV)(m:LM)(H:AH)(K:LM→AH→Prop):Prop:=SY X d t sc p m H K
def aq (acc:List PV)(m:LM)(K:List PV→LM→AH→Prop)(p:PV)(H:AH):Prop:=acc.length≤100000∧K (acc++[p]) m H
def XF (elt:Expr)(sc:SC)(acc:List PV)(m:LM)(K:List PV→LM→AH→Prop)(c:Bool)(H:AH):Prop:=if c then vE X d elt sc m H (aq acc m K) else K acc m H
def Qa (elt:Expr)(ifs:List Expr)(sc:SC)(acc:List PV)(m:LM)(H:AH)(K:List PV→LM→AH→Prop):Prop:=Vj X d ifs sc m H (XF X d elt sc acc m K)
def RN (Q:QE)(out:List PV)(_:LM)(H:AH):Prop:=∀c,H c=none→Q (.loc c) (H.set c (.list out))
def WU (elt t:Expr)(ifs:List Expr)(sc:SC)(m:LM)(H:AH)(Q:QE)(ok:AH→Prop)(items:List PV):Prop:=Fu ok (Lv X d t sc) (Qa X d elt ifs sc) items [] m H (RN Q)
def dj (elt t:Expr)(ifs:List Expr)(sc:SC)(m:LM)(Q:QE)(src:PV)(H:AH):Prop:=IF H (WU X d elt t ifs sc m H Q) src
def XG (p:PV)(K:QL)(ps:List PV)(H:AH):Prop:=K (p::ps) H
def du (r:List Expr)(sc:SC)(m:LM)(K:QL)(p:PV)(H:AH):Prop:=Ml X d r sc m H (XG p K)
def ar (op:BoolOp)(r:List Expr)(sc:SC)(m:LM)(Q:QE)(p:PV)(H:AH)(b:Bool):Prop:=if b=(op == .Or) then Q p H else vB X d op r sc m H Q
def dw (op:BoolOp)(r:List Expr)(sc:SC)(m:LM)(Q:QE)(p:PV)(H:AH):Prop:=G7 p (ar X d op r sc m Q p H)
def kK (K:QB)(H:AH)(c:Bool):Prop:=K c H
def dy (op:CmpOp)(a:PV)(K:QB)(b:PV)(H:AH):Prop:=Qw X op a b H (kK K H)
def dz (ops:List CmpOp)(rs:List Expr)(b:PV)(sc:SC)(m:LM)(H:AH)(K:QB)(c:Bool):Prop:=if c then Wr X d ops rs b sc m H K else K false H
def dA (op:CmpOp)(a:PV)(ops:List CmpOp)(rs:List Expr)(sc:SC)(m:LM)(K:QB)(b:PV)(H:AH):Prop:=Qw X op a b H (dz X d ops rs b sc m H K)
def dC (K:QB)(b:Bool)(H:AH):Prop:=K (!b) H
def cy (K:QB)(p:PV)(H:AH):Prop:=G7 p (kK K H)
def dD (K:QB)(H:AH)(p:PV):Prop:=G7 p (kK K H)
def dE (op:BoolOp)(r:List Expr)(sc:SC)(m:LM)(K:QB)(b:Bool)(H:AH):Prop:=if b=(op == .Or) then K b H else XD X d op r sc m H K
def dF (name:Str)(p:PV)(m:LM)(K:LM→AH→Prop)(q:PV)(H:AH):Prop:=Lk X name p H (K m) q
def au (q p:PV)(m:LM)(K:LM→AH→Prop)(j:PV)(H:AH):Prop:=Ja q j p H (K m)
def dG (i:Expr)(sc:SC)(p:PV)(m:LM)(K:LM→AH→Prop)(q:PV)(H:AH):Prop:=vE X d i sc m H (au q p m K)
def av (ts:List Expr)(sc:SC)(ps:List PV)(K:LM→AH→Prop)(m:LM)(H:AH):Prop:=JR X d ts sc ps m H K
def cz (Q:QS)(m:LM)(H:AH):Prop:=Q .next m H
def dH (m:LM)(Q:QS)(_:PV)(H:AH):Prop:=Q .next m H
def eJ (ts:List Expr)(sc:SC)(m:LM)(Q:QS)(ps:List PV)(H:AH):Prop:=JR X d ts sc ps.reverse m H (cz Q)
def dI (t:Expr)(sc:SC)(m:LM)(Q:QS)(p:PV)(H:AH):Prop:=SY X d t sc p m H (cz Q)
def bm (b o:List Stmt)(sc:SC)(m:LM)(Q:QS)(c:Bool)(H:AH):Prop:=if c then NW X d b sc m H Q else NW X d o sc m H Q
def cA (t:Expr)(sc:SC)(m:LM)(H:AH)(K:QB):Prop:=vT X d t sc m H K
def Ws (b:List Stmt)(sc:SC)(m:LM)(H:AH)(K:QS):Prop:=NW X d b sc m H K
def WV (t:Expr)(b:List Stmt)(sc:SC)(m:LM)(H:AH)(Q:QS)(ok:AH→Prop)(items:List PV):Prop:=Hh ok (Lv X d t sc) (Ws X d b sc) items m H Q
def dJ (t:Expr)(b:List Stmt)(sc:SC)(m:LM)(Q:QS)(src:PV)(H:AH):Prop:=IF H (WV X d t b sc m H Q) src
def dK (m:LM)(Q:QS)(p:PV)(H:AH):Prop:=Q (.ret p) m H
def aw (r:List Stmt)(sc:SC)(Q:QS)(f:Fl)(m:LM)(H:AH):Prop:=Yl f (NW X d r sc m H Q) (Q f m H)
def Yo (go:LM→AH→Prop)(Q:QS)(f:Fl)(m:LM)(H:AH):Prop:=Wz f (go m H) (Q .next m H) fun p=>Q (.ret p) m H
def dL (body:LM→AH→QS→Prop)(go:LM→AH→Prop)(m:LM)(Q:QS)(b:Bool)(H:AH):Prop:=if b then body m H (Yo go Q) else Q .next m H
def eM (test:LM→AH→QB→Prop)(body:LM→AH→QS→Prop)(n:Nat)(Q:QS)(m:LM)(H:AH):Prop:=Ij test body n m H Q
def cB (ok:AH→Prop)(asg:PV→LM→AH→(LM→AH→Prop)→Prop)(elt:List PV→LM→AH→(List PV→LM→AH→Prop)→Prop)(xs:List PV)(K:List PV→LM→AH→Prop)(acc:List PV)(m:LM)(H:AH):Prop:=Fu ok asg elt xs acc m H K
def Zj (elt:List PV→LM→AH→(List PV→LM→AH→Prop)→Prop)(acc:List PV)(K:List PV→LM→AH→Prop)(m:LM)(H:AH):Prop:=elt acc m H K
def bq (ts:List Expr)(sc:SC)(m:LM)(H:AH)(K:LM→AH→Prop):Option (List PV)→Prop
 |some ps=>ts.length=ps.length∧gd (HX ts) (JR X d ts sc ps m H K)
 |none=>False
def cC (body:LM→AH→QS→Prop)(K:QS)(m:LM)(H:AH):Prop:=body m H K
end
end
section
open Classical
set_option autoImplicit true
theorem nr {a b:Prop}(h:a=b):a=b:=h▸rfl
end
section
open Classical
structure ScOk (sc:SC)(env:Env)(wr:Bool):Prop where
 loc:∀x,kd x sc=some .local→env.kindOf x=some .local
 cell:∀x,kd x sc=some .cell→wr=true∧env.kindOf x=some .cell
 free:∀x,kd x sc=some .free→env.kindOf x=some .cell∨env.kindOf x=some .free
 glob:∀x,kd x sc=some .globalImplicit→env.kindOf x=some .globalImplicit
 clk:∀x,kd x sc=some .cell∨kd x sc=some .free→∃c,env.cells.lookup x=some c
theorem NY {x y:Str}{p v:PV}:∀{m:LM},lk y (Wo x p m)=some v→(y=x∧v=p)∨(y≠x∧lk y m=some v)
 |[],e=>CC e
 |(z,w)::r,e=>by
  rw[UG] at e
  by_cases c:z=x
  ·rw[if_pos c] at e
   rw[F2] at e
   by_cases c2:z=y
   ·rw[if_pos c2] at e
    replace e:=Ai e;subst e
    exact .inl ⟨c2.symm.trans c,rfl⟩
   ·rw[if_neg c2] at e
    refine .inr ⟨fun q=>c2 (c.trans q.symm),?_⟩
    rw[F2]
    rw[if_neg c2]
    exact e
  ·rw[if_neg c] at e
   rw[F2] at e
   by_cases c2:z=y
   ·rw[if_pos c2] at e
    refine .inr ⟨fun q=>c (c2.trans q),?_⟩
    rw[F2]
    rw[if_pos c2]
    exact e
   ·rw[if_neg c2] at e
    focus(refine Ap (NY e) (fun a=>?_) fun z0=>?_;rotate_left;refine Aw z0 fun a b=>?_;clear z0;rotate_right)
    ·exact .inl a
    ·refine .inr ⟨a,?_⟩
     rw[F2]
     rw[if_neg c2]
     exact b
def TV (X:Ctx)(d:Nat)(env:Env)(wr:Bool)(m:LM)(H:AH)(p:PV)(t:Ac→Sem Unit)(K:LM→AH→Prop):Prop:=
 ∀(h:Heap) (pv:List (Addr×Obj)) (s:Ad) (A:B2) (E:Ac→Ad→Prop) (post:Unit→Ad→Prop) (v:Ac),X.In h→St X h env wr pv m H s→Lh X d A→AP h p v→
  (∀s' h₁ m' H',BH h h₁→St X h₁ env wr pv m' H' s'→K m' H'→post () s')→wpAny (model X.prog X.w) A (t v) post E s
section
variable {X:Ctx}{d:Nat}{env:Env}{wr:Bool}{m:LM}{H:AH}{sc:SC}{Q:PV→AH→Prop}
theorem Bp (h:Heap):BH h h:=fun uu uu e=>e
theorem BH.trans {a b c:Heap}(x:BH a b)(y:BH b c):BH a c:=fun uu uu e=>y _ _ (x _ _ e)
theorem RO {x:Str}{pos:Pos}(v:FR X sc m x fun p=>Q p H)(so:ScOk sc env wr):TE X d env wr m H (eval (.Name x pos) env) Q:=by
 intro h pv s A E post xi S ok k
 refine Aw (Tz v) fun h1 zr=>?_;refine Aw zr fun h2 zr=>?_;refine AB zr fun p e0 v=>?_;clear zr
 have hd:(x == ("__debug__":Str))=false:=by simpa using h1
 have hc:(x == ("__classdict__":Str))=false:=by simpa using h2
 have local_:lk x m=some p→env.kindOf x=some .local→wpAny (model X.prog X.w) A (eval (.Name x pos) env) post E s:=fun e2 hk=>by
  rcases S.ns with⟨mc,n,r⟩
  refine AB (r x p e2 hk) fun c e3 rc=>?_
  exact FW (CK S.kind hk n e3 (k _ _ _ p H (Bp h) S rc v)) hd
 have cell_:lk x m=some p→(env.kindOf x=some .cell∨env.kindOf x=some .free)→wpAny (model X.prog X.w) A (eval (.Name x pos) env) post E s:=fun e2 hk=>by
  refine Cv (S.cl x p e2 hk) fun c w l ic rc=>?_
  revert hk;refine fun zo=>Ap zo (fun hk=>?_) (fun hk=>?_)<;>clear zo
  ·exact FW (wpAny_loadName_cell S.kind hk l ic (k _ _ _ p H (Bp h) S rc v)) hd
  ·exact FW (JV S.kind hk l ic (k _ _ _ p H (Bp h) S rc v) hc) hd
 cases e:kd x sc with
 |none=>rw[e] at e0;exact CC e0
 |some kn=>
  rw[e] at e0
  induction kn using Bd with
  |«local»=>exact local_ e0 (so.loc x e)
  |cell=>exact cell_ e0 (.inl (so.cell x e).2)
  |free=>exact cell_ e0 (so.free x e)
  |globalExplicit=>exact CC e0
  |globalImplicit=>
   refine AB (xi.gl x p e0) fun u hu ru=>?_
   have g:=xi.g.keeps S.own.keep
   have b:=xi.b.keeps S.own.keep
   rw[←S.glo] at g
   rw[←S.bi] at b
   have kk:post u s:=k _ _ _ p H (Bp h) S ru v
   focus(revert hu;refine fun zo=>Ap zo (fun hu=>?_) fun z0=>?_;rotate_left;clear zo;refine Aw z0 fun hu1 hu2=>?_;clear z0;rotate_right;clear zo)
   ·exact CL S.kind (so.glob x e) (DZ g hu kk) hd
   ·exact CL S.kind (so.glob x e) (KG g hu1 b hu2 kk) hd
theorem S_ {c:Const}{kk:Nat}{pos:Pos}(v:Nr c fun p=>Q p H):TE X d env wr m H (eval (.Constant c kk pos) env) Q:=by
 intro h pv s A E post xi S ok k
 induction c using Gj with
 |none=>exact wpAny_Constant_none (k _ _ _ _ H (Bp h) S (by refine AP.n' ?_;rfl) v)
 |bool b=>exact wpAny_Constant_bool (k _ _ _ _ H (Bp h) S (by refine AP.b' ?_;rfl) v)
 |int i=>exact EU (k _ _ _ _ H (Bp h) S.tok (by refine AP.i' ?_;exact⟨_,rfl⟩) v)
 |str x=>exact wpAny_Constant_str (k _ _ _ _ H (Bp h) S.tok (by refine AP.s' ?_;exact⟨_,rfl⟩) v)
 |_=>exact AF v
theorem St.locCell {h:Heap}{pv:List (Addr×Obj)}{s:Ad}(S:St X h env wr pv m H s){c:Addr}{v:Option Ac}(ic:s.heap.IsCell c v):c≠env.locals:=by
 rintro rfl
 rcases S.ns with⟨mc,⟨o,es,ep,g,d,_⟩,_⟩
 refine AB ic fun o' g' d'=>?_;clear ic
 rw[g] at g'
 replace g':=Ai g';subst g'
 rw[d] at d'
 cases d'
theorem St.storeL {h:Heap}{pv:List (Addr×Obj)}{s:Ad}(S:St X h env wr pv m H s){x:Str}{p:PV}{v:Ac}(hk:env.kindOf x=some .local)(r:AP h p v)
  {A:B2}{E:Ac→Ad→Prop}{post:Unit→Ad→Prop}(k:∀s',St X h env wr pv (Wo x p m) H s'→post () s'):wpAny (model X.prog X.w) A (storeName env x v) post E s:=by
 rcases S.ns with⟨mc,n,rr⟩
 refine wpAny_storeName_local hk n (fun h' n' hs=>k _ ?_) (by rw[S.kind];rfl)
 refine⟨(S.own.other S.nsO.2 S.nsO.1 hs).tok (s':={s with heap:=h',toks:=s.toks+1}),S.kind,S.glo,S.bi,⟨_,n',fun y w e ky=>?_⟩,S.nsO,fun y w e ky=>?_,fun wt y ky=>?_,fun q hq=>?_⟩
 ·focus(refine Ap (NY e) (fun z0=>?_) fun z0=>?_;rotate_left;refine Aw z0 fun a b=>?_;clear z0;rotate_right;revert z0;refine fun zq=>Aw zq fun z0 z1=>?_;clear zq;subst z0;subst z1)
  ·exact⟨v,if_pos rfl,r⟩
  ·refine AB (rr y w b ky) fun c e1 r1=>?_
   exact⟨c,by rw[if_neg a];exact e1,r1⟩
 ·focus(refine Ap (NY e) (fun z0=>?_) fun z0=>?_;rotate_left;refine Aw z0 fun a b=>?_;clear z0;rotate_right;revert z0;refine fun zq=>Aw zq fun z0 z1=>?_;clear zq;subst z0;subst z1)
  ·rw[hk] at ky;revert ky;refine fun zo=>Ap zo (fun ky=>?_) (fun ky=>?_)<;>clear zo<;>cases ky
  ·refine Cv (S.cl y w b ky) fun c u l ic r1=>?_
   exact FQ c u l (ic.sameBut hs (S.locCell ic)) r1
 ·refine L9 (S.clO wt y ky) fun c v₀ l ic hn Hn ne ap pa=>?_
  exact Ic c v₀ l (ic.sameBut hs ne) hn Hn ne ap pa
 ·refine Eb (S.pvO q hq) fun g hn Hn ne pl=>?_
  exact⟨(hs.2 _ ne).trans g,hn,Hn,ne,pl⟩
theorem St.storeC {h:Heap}{pv:List (Addr×Obj)}{s:Ad}(S:St X h env wr pv m H s){x:Str}{p:PV}{v:Ac}(hw:wr=true)(hk:env.kindOf x=some .cell)(r:AP h p v)
  {A:B2}{E:Ac→Ad→Prop}{post:Unit→Ad→Prop}(k:∀s',St X h env wr pv (Wo x p m) H s'→post () s'):wpAny (model X.prog X.w) A (storeName env x v) post E s:=by
 rcases S.ns with⟨mc,n,rr⟩
 refine L9 (S.clO hw x hk) fun c v₀ l ic hn Hn ne ap pa=>?_
 refine wpAny_storeName_cell S.kind hk l ic fun h' ic' hs=>k _ ?_
 refine⟨S.own.other Hn hn hs,S.kind,S.glo,S.bi,⟨_,n.sameBut hs (Ck ne),fun y w e ky=>?_⟩,S.nsO,fun y w e ky=>?_,fun wt y ky=>?_,fun q hq=>?_⟩
 ·focus(refine Ap (NY e) (fun z0=>?_) fun z0=>?_;rotate_left;refine Aw z0 fun a b=>?_;clear z0;rotate_right;revert z0;refine fun zq=>Aw zq fun z0 z1=>?_;clear zq;subst z0;subst z1)
  ·rw[hk] at ky;cases ky
  ·exact rr y w b ky
 ·focus(refine Ap (NY e) (fun z0=>?_) fun z0=>?_;rotate_left;refine Aw z0 fun a b=>?_;clear z0;rotate_right;revert z0;refine fun zq=>Aw zq fun z0 z1=>?_;clear zq;subst z0;subst z1)
  ·exact FQ c v l ic' r
  ·refine Cv (S.cl y w b ky) fun c2 u l2 ic2 r1=>?_
   exact FQ c2 u l2 (ic2.sameBut hs (fun q=>ap y a ky (by rw[l2,q];rfl))) r1
 ·by_cases a:y=x
  ·subst a
   exact Ic c _ l ic' hn Hn ne ap pa
  ·refine L9 (S.clO wt y ky) fun c2 v2 l2 ic2 hn2 Hn2 ne2 ap2 pa2=>?_
   exact Ic c2 v2 l2 (ic2.sameBut hs (fun q=>ap y a (.inl ky) (by rw[l2,q];rfl))) hn2 Hn2 ne2 ap2 pa2
 ·refine Eb (S.pvO q hq) fun g hn2 Hn2 ne2 pl=>?_
  exact⟨(hs.2 _ (pa q hq)).trans g,hn2,Hn2,ne2,pl⟩
theorem Vm {x:Str}{pos:Pos}{p:PV}{K:LM→AH→Prop}(v:(kd x sc=some .local∨kd x sc=some .cell)∧K (Wo x p m) H)(so:ScOk sc env wr):TV X d env wr m H p (assign (.Name x pos) env) K:=by
 intro h pv s A E post u xi S ok r k
 refine wpAny_assign_Name ?_
 refine Ap v.1 (fun hk=>?_) fun hk=>?_
 ·exact S.storeL (so.loc x hk) r fun s' S'=>k s' h _ H (Bp h) S' v.2
 ·refine Aw (so.cell x hk) fun hw hk=>?_
  exact S.storeC hw hk r fun s' S'=>k s' h _ H (Bp h) S' v.2
end
end
section
open Classical
section
variable {prog:Program}{w:World}{A:B2}{E:Ac→Ad→Prop}{s:Ad}
theorem QX (b n:Nat)(hb:b≤n):Ep none (some (b:Int)) 1 (n:Int)=(0,(b:Int)):=by
 unfold Ep
 have h1:¬((1:Int)<0):=by decide
 have h2:¬((b:Int)<0):=by exact EZ.mpr (AY _)
 simp only[h1,h2,if_false]
 congr 1
 x_go
theorem QY (b:Nat):De 0 (b:Int) 1=b:=by
 unfold De
 have h1:(1:Int)>0:=by decide
 simp only[h1,if_true,Int.ediv_one]
 split<;>x_go
theorem Lw {sl:Addr}{b n:Nat}{u:Tok}{Q:Int×Int×Nat→Ad→Prop}(hs:s.heap.IsSliceOf sl .none (.int b u) .none)(hb:b≤n)(h:Q (0,1,b) s):
  wpAny (model prog w) A (Builtin.Slice.sliceApplied (.ref sl) (pure (n:Int))) Q E s:=by
 refine CP (id hs) fun os hos hcs hds=>?_
 refine A7 (A7 (C4 hos hds (x:= .none) rfl (A7 (C4 hos hds (x:= .int b u) rfl (A7 (C4 hos hds (x:= .none) rfl (A9 ?_)))))))
 refine A7 (slicePart_none ?_)
 refine(?_:wpAny _ _ (if((1:Int) == 0)=true then _ else _) _ _ s)
 rw[if_neg (by decide)]
 refine A7 (slicePart_none (A7 (slicePart_int (A7 (A9 ?_)))))
 refine(?_:wpAny _ _ (match Ep none (some (b:Int)) 1 (n:Int) with|(lo,hi)=>pure (lo,(1:Int),De lo hi 1)) _ _ s)
 rw[QX b n hb]
 refine(?_:wpAny _ _ (pure ((0:Int),(1:Int),De 0 (b:Int) 1)) _ _ s)
 rw[QY b]
 exact A9 h
theorem TY (xs:Array Ac)(b:Nat):((Am b).filterMap fun(k:Nat)=>xs[((0:Int)+(k:Int)*1).toNat]?).toArray=(xs.toList.take b).toArray:=by
 have e:(fun(k:Nat)=>xs[((0:Int)+(k:Int)*1).toNat]?)=fun k=>xs[0+k]? :=by
  funext k
  have:((0:Int)+(k:Int)*1).toNat=0+k:=by x_go
  rw[this];rfl
 rw[e]
 have:=pick_run xs 0 b
 rw[KU] at this
 have e2:((fun x=>xs[x]?)∘fun x=>0+x)=fun k=>xs[0+k]? :=rfl
 rw[e2] at this
 rw[this,OJ];rfl
theorem Kv {t sl:Addr}{items:Array Ac}{b:Nat}{u:Tok}{Q:Ac→Ad→Prop}(ht:IsTup s.heap t items)(hs:s.heap.IsSliceOf sl .none (.int b u) .none)(hb:b<items.size)
  (h:Q (.ref s.heap.objs.size) {s with heap:=s.heap.push {cls:= .type "tuple",data:= .seq (items.toList.take b).toArray}})
  (hsz:items.size≤sizeLine):wpAny (model prog w) A (getItem (.ref t) (.ref sl)) Q E s:=by
 have htake:sizeOk (.seq (items.toList.take b).toArray):=by
  refine(?_:(items.toList.take b).toArray.size≤sizeLine)
  rw[AE,DB,BF]
  exact(Al [_,_,_] 0x210c02102) hsz
 refine CP (id hs) fun os hos hcs hds=>?_
 have hTs:s.TypeIs (.ref sl) "slice":=⟨os,hos,hcs⟩
 unfold getItem
 try with_reducible refine Ay ?_
 first|refine A7 (A9 ?_)|skip
 refine A7 (Fh ht.typeIs (by decide) ?_)
 refine A7 (Bm (name:=A8 "__getitem__") ht.typeIs KE
  (B4 KE ht.typeIs entry_tuple_getitem ?_ (args_tuple_getitem _ _)))
 refine(?_:wpAny _ _ (Builtin.Tuple.tupleItemsOf (.ref t)>>=_) _ _ s)
 refine A7 (tupleItemsOf_ ht ?_)
 refine A7 (Fp hTs ?_)
 rw[if_pos (by decide)]
 refine A7 (Lw hs (AU hb) ?_)
 have hno:¬(((0:Int) == 0&&(1:Int) == 1&&b == items.size)=true):=by
  have:(b == items.size)=false:=by rewrite[beq_eq_false_iff_ne];exact(Al [_,_] 0x51012140502) hb
  rw[this];simp
 refine(?_:wpAny _ _ (if((0:Int) == 0&&(1:Int) == 1&&b == items.size)=true then _ else _) _ _ s)
 rw[if_neg hno,TY items b]
 first
  |exact A7 (m:=Dq _) (Bb (A9 ⟨_,rfl,A9 h⟩) htake)
  |exact A7 (m:=Dq _) (Bb (A7 (A9 (A9 ⟨_,rfl,A9 h⟩))) htake)
  |exact A7 (A7 (m:=Dq _) (Bb (A9 (A9 ⟨_,rfl,A9 h⟩)) htake))
  |exact A7 (A7 (m:=Dq _) (Bb (A9 ⟨_,rfl,A9 h⟩) htake))
end
def Yp:Sl→Ac→Ac→Ac→Prop
 | .from k,l,u,t=>(∃x,l= .int k x)∧u= .none∧t= .none
 | .upto k,l,u,t=>l= .none∧(∃x,u= .int k x)∧t= .none
 | .rev,l,u,t=>l= .none∧u= .none∧∃x,t= .int (-1) x
section
variable {X:Ctx}{h:Heap}{H:AH}{s:Ad}{A:B2}{E:Ac→Ad→Prop}{d:Nat}{Q:PV→AH→Prop}{post:Ac→Ad→Prop}
theorem MQ (O:Own X h H s)(P:EG X h Q post){l S:Addr}{vs:List PV}{xs:List Ac}{n:Nat}{a b c:Ac}{sl:Sl}(g:s.heap.get? l=some (Go xs n))(r:AG h vs xs)(hs:s.heap.IsSliceOf S a b c)(e:Yp sl a b c)
  (t:cW H Q vs sl):wpAny (model X.prog X.w) A (getItem (.ref l) (.ref S)) post E s:=by
 have z:=r.len
 induction sl using Mine.Internal.Sl.casesOn with
 |«from» k=>exact t.elim
 |upto k=>
  refine DF e fun z0 z1 z2=>?_;clear e;subst z0;revert z1;refine fun zq=>AI zq fun x z1=>?_;clear zq;subst z1;subst z2
  refine Hy (WC g) hs .none (.int _ _) .none (by decide) ?_ (by rw[AE,AV];have:=t.1;exact(Al [_,_] 0x10000007800186a0581020112) z this)
  rw[slicePick_upto' _ _]
  exact P.list O (r.take k) t.2
 |rev=>
  refine Aw e fun z0 zr=>?_;clear e;subst z0;revert zr;refine fun zq=>Aw zq fun z0 zr=>?_;clear zq;subst z0;refine AI zr fun x z1=>?_;clear zr;subst z1
  refine Hy (WC g) hs .none .none (.int _ _) (by decide) ?_ (by rw[AE,AV];have:=t.1;exact(Al [_,_] 0x10000007800186a0581020112) z this)
  rw[krv_pick _]
  exact P.list O r.reverse t.2
theorem WW (x:X.In h)(O:Own X h H s)(P:EG X h Q post){p:PV}{u:Ac}{S:Addr}{a b c:Ac}{sl:Sl}(r:AP h p u)(hs:s.heap.IsSliceOf S a b c)(e:Yp sl a b c)
  (t:Ko X sl H Q p):wpAny (model X.prog X.w) A (getItem u (.ref S)) post E s:=by
 induction p using Mine.Internal.PV.casesOn with
 |tup vs=>
  refine Md r fun ta xs g rr=>?_
  have z:=rr.len
  replace t:cX H Q vs sl:=t
  induction sl using Mine.Internal.Sl.casesOn with
  |«from» k=>
   refine DF e fun z0 z1 z2=>?_;clear e;refine AI z0 fun y z1=>?_;clear z0;subst z1;subst z1;subst z2
   refine M6 t fun t1 t2 t3 t4=>?_;clear t
   refine getItem_tuple_from (items:=xs.toArray) ⟨_,O.keep _ _ g,rfl,_,rfl⟩ hs t2 (by rw[AE];exact(Al [_,_,_] 0x10020021212) z t3) ?_ (by rw[AE,AV];exact(Al [_,_] 0x10000007800186a0581020112) z t1)
   exact P.tup O (rr.drop _) t4
  |upto k=>
   refine DF e fun z0 z1 z2=>?_;clear e;subst z0;revert z1;refine fun zq=>AI zq fun y z1=>?_;clear zq;subst z1;subst z2
   refine DF t fun t1 t2 t3=>?_;clear t
   refine Kv (items:=xs.toArray) ⟨_,O.keep _ _ g,rfl,_,rfl⟩ hs (by rw[AE];exact(Al [_,_,_] 0x140502405021212) z t2) ?_ (by rw[AE,AV];exact(Al [_,_] 0x10000007800186a0581020112) z t1)
   exact P.tup O (rr.take _) t3
  |rev=>exact t.elim
 |loc l=>
  cases C6 r
  replace t:Hg sl H Q (N2 (H l)):=t
  cases e2:N2 (H l) with
  |none=>rw[e2] at t;exact t.elim
  |some vs=>
   rw[e2] at t
   refine BT (O.isList (Lj e2)) fun xs n g rr=>?_
   exact MQ O P g rr hs e t
 |raw w=>
  replace t:=PL t
  revert t;refine fun zq=>AB zq fun l z1 t=>?_;clear zq;subst z1
  cases Ik r
  replace t:Hg sl H Q (IE l X.lst):=t
  cases e2:IE l X.lst with
  |none=>rw[e2] at t;exact t.elim
  |some vs=>
   rw[e2] at t
   refine BT (O.isSeqL x e2) fun xs n g rr=>?_
   exact MQ O P g rr hs e t
 |_=>exact t.elim
end
end
section
open Classical
theorem Hu {e:Expr}{r:List Expr}{env:Env}(h:Kq e=false):starEach (e::r) env=(false,eval e env)::starEach r env:=by
 induction e using AA<;>first|rfl|exact aZ h
theorem Hk {e:Expr}{r:List Expr}(h:EI (e::r)=true):Kq e=false∧EI r=true:=
 have h:=Ae.mp h
 ⟨by{cases q:Kq e with|false=>rfl|true=>(rw[q] at h;exact absurd h.1 AD)},h.2⟩
theorem GB {env:Env}:∀{es:List Expr},EI es=true→starEach es env=es.map fun e=>(false,eval e env)
 |[],_=>rfl
 |e::r,h=>by
  have h:=Hk h
  rw[Hu h.1,GB h.2];rfl
theorem NZ {env:Env}{pos:Pos}{es:List Expr}(h:EI es=true):(backTo pos (starEach es env)).any (·.1)=false:=by
 rw[GB h]
 unfold backTo
 simp
theorem QZ {env:Env}{pos:Pos}{es:List Expr}(h:EI es=true):(backTo pos (starEach es env)).all (fun x=> !x.1)=true:=by
 rw[GB h]
 unfold backTo
 simp
theorem Kw {o:Expr}{name:Str}{env:Env}{w:Sem Ac}(h:GA o=true):attributeBase o name env w=w:=by
 induction o using AA<;>first|rfl|exact Eo (show false=true from h)
section
variable {M:Model}{A:B2}{E:Ac→Ad→Prop}{s:Ad}{env:Env}
theorem Lx {f:Ac}{pos:Pos}{es:List Expr}{Q:Args→Ad→Prop}(hs:EI es=true)(h:wpAny M A (spliced (backTo pos (starEach es env))) (fun vs s₁=>Q ⟨vs,[]⟩ s₁) E s):
  wpAny M A (evalArgs f true (backTo pos (starEach es env)) []) Q E s:=by
 induction es using Az with
 |nil=>
  refine(?_:wpAny M A (spliced []>>=_) Q E s)
  replace h:wpAny M A (spliced []) (fun vs s₁=>Q ⟨vs,[]⟩ s₁) E s:=h
  refine A7 (Dc h (fun vs s₁ h₁=>?_) fun uu uu x=>x)
  refine A7 (A9 ?_)
  refine Ay ?_
  exact A7 (A9 (A7 (A9 (A9 h₁))))
 |cons e r=>
  rw[Hu (Hk hs).1] at h ⊢
  exact LW h
end
section
variable {X:Ctx}{d:Nat}{env:Env}{wr:Bool}{m:LM}{H:AH}{sc:SC}{Q:PV→AH→Prop}
theorem N_ {f:Ac}{first:List PV}{pos:Pos}{es:List Expr}{K:List PV→AH→Prop}(hs:EI es=true)(ta:TL X d env wr m H (spliced (backTo pos (starEach es env))) K)
  {h:Heap}{pv:List (Addr×Obj)}{s:Ad}{A:B2}{E:Ac→Ad→Prop}{post:Ac→Ad→Prop}{fv:List Ac}(xi:X.In h)(S:St X h env wr pv m H s)(ok:Lh X d A)(rf:AG h first fv)
  (o:∀ps H',K ps H'→(∀g:Heap,X.K.In g→∃k,(k=Fq∨k=DD∨k=Dl)∧Looks (model X.prog X.w) g (keeperOf f) k)∧Op X d (fun vs=>call f vs) (first++ps) H' Q)
  (k:∀v s' h₁ p H',BH h h₁→St X h₁ env wr pv m H' s'→AP h₁ p v→Q p H'→post v s'):
  wpAny (model X.prog X.w) A (callWith pos f fv (backTo pos (starEach es env)) []) post E s:=by
 refine M_ (P:=fun g=>∃k,(k=Fq∨k=DD∨k=Dl)∧Looks (model X.prog X.w) g (keeperOf f) k) (by rw[NZ hs];rfl) (fun g x=>x) (Lx hs ?_)
 refine ta h pv s A E _ xi S ok fun vs s1 h1 ps H1 k1 S1 r1 q1=>⟨(o ps H1 q1).1 _ ((xi.keeps k1).k.keeps S1.own.keep),?_⟩
 exact S1.op (xi.keeps k1) (o ps H1 q1).2 (AG.append (AG.keeps k1 _ rf) r1) ok fun v s2 h2 p H2 k2 S2 r2 q2=>k v s2 h2 p H2 (k1.trans k2) S2 r2 q2
theorem F8 {M:Model}{f:Ac}(h:keeperOf f=pure DD):∀g:Heap,X.K.In g→∃k,(k=Fq∨k=DD∨k=Dl)∧Looks M g (keeperOf f) k:=
 fun g uu=>⟨.machine, .inr (.inl rfl),fun A Q E s uu q=>by rw[h];exact A9 q⟩
theorem TZ {M:Model}(b:BI):∀g:Heap,X.K.In g→∃k,(k=Fq∨k=DD∨k=Dl)∧Looks M g (keeperOf b.val) k:=
 F8 (by induction b using Mine.Internal.BI.casesOn<;>rfl)
theorem Yq {h:Heap}{b:BI}{v:Ac}(r:AP h (.bi b) v):v=b.val:=r
theorem ax {b:BI}{ps:List PV}(t:ZN X b ps H Q):Op X d (fun vs=>call b.val vs) ps H Q:=
 fun h s vs A E post x O r ok P=>cu x O r ok P t
theorem Q_ {u:Ac}{ps:List PV}(o:Bz X d (.raw u) ps H Q):Op X d (fun vs=>call u vs) ps H Q:=
 fun h s vs A E post x O r ok P=>o.2 h s (u::vs) A E post x O (AG.d ⟨rfl,r⟩) ok P
theorem O0 {x:Str}{p pos:Pos}{es:List Expr}(so:ScOk sc env wr)(hf:Zi es=true)
  (v:FR X sc m x fun p=>Ml X d es sc m H fun ps H'=>P9 X d ps H' Q p)
  (ta:∀K,Ml X d es sc m H K→TL X d env wr m H (spliced (backTo pos (starEach es env))) K):TE X d env wr m H (eval (.Call (.Name x p) es [] pos) env) Q:=by
 intro h pv s A E post xi S ok k
 refine wpAny_Call_Name_kw ?_
 refine RO (Q:=fun p H'=>H'=H∧Ml X d es sc m H fun ps H'=>P9 X d ps H' Q p) (Ry v fun p q=>⟨rfl,q⟩) so h pv s A E _ xi S ok fun fv s1 h1 f H1 k1 S1 r1 q1=>?_
 revert q1;refine fun zq=>Aw zq fun z0 q1=>?_;clear zq;subst z0
 have go:(∀ps H',P9 X d ps H' Q f→(∀g:Heap,X.K.In g→∃k,(k=Fq∨k=DD∨k=Dl)∧Looks (model X.prog X.w) g (keeperOf fv) k)∧Op X d (fun vs=>call fv vs) ps H' Q):=by
  intro ps H' c
  induction f using Mine.Internal.PV.casesOn with
  |bi b=>cases Yq r1;exact⟨TZ b,ax c⟩
  |raw u=>
   cases Ik r1
   replace c:Bz X d (.raw fv) ps H' Q:=c
   refine Aw (id c) fun z0 uu=>?_;refine AB z0 fun u' e hk=>?_;clear z0
   cases e
   exact⟨fun g x=>keeps_K hk g x,Q_ c⟩
  |_=>exact c.elim
 exact N_ (first:=[]) (Ee hf).1 (ta _ q1) (xi.keeps k1) S1 ok (by exact AG.n) go fun v s2 h2 p H2 k2 S2 r2 q2=>k v s2 h2 p H2 (k1.trans k2) S2 r2 q2
end
end
section
open Classical
theorem Pp {x:Str}{mm:Meth}(h:IG x=mm):(mm= .append→x="append")∧(mm= .extend→x="extend")∧(mm= .pop→x="pop")∧(mm= .get→x="get")∧(mm= .setdefault→x="setdefault"):=by
 subst h
 unfold IG
 simp only[Gw]
 by_cases e:x="append"
 ·rw[if_pos e];exact⟨fun uu=>e,nofun,nofun,nofun,nofun⟩
 rw[if_neg e]
 by_cases e:x="extend"
 ·rw[if_pos e];exact⟨nofun,fun uu=>e,nofun,nofun,nofun⟩
 rw[if_neg e]
 by_cases e:x="pop"
 ·rw[if_pos e];exact⟨nofun,nofun,fun uu=>e,nofun,nofun⟩
 rw[if_neg e]
 by_cases e:x="get"
 ·rw[if_pos e];exact⟨nofun,nofun,nofun,fun uu=>e,nofun⟩
 rw[if_neg e]
 by_cases e:x="setdefault"
 ·rw[if_pos e];exact⟨nofun,nofun,nofun,nofun,fun uu=>e⟩
 ·rw[if_neg e];exact⟨nofun,nofun,nofun,nofun,nofun⟩
section
variable {X:Ctx}{d:Nat}{env:Env}{wr:Bool}{m:LM}{H:AH}{sc:SC}{Q:PV→AH→Prop}
theorem Qb {mm:Meth}{l:Addr}{ps:List PV}{H:AH}(h:b9 mm l Q ps H):∃vs,H l=some (.list vs)∧UO l vs ps H Q mm:=by
 replace h:=Hf h
 focus(revert h;refine fun zo=>Ap zo (fun z0=>?_) fun z0=>?_;rotate_left;clear zo;refine BT z0 fun uu uu uu t=>?_;clear z0;rotate_right;clear zo;refine AB z0 fun vs e t=>?_;clear z0)
 ·exact⟨vs,e,t⟩
 ·exact t.elim
theorem Qc {mm:Meth}{l:Addr}{ps:List PV}{H:AH}(h:ba mm l Q ps H):∃es n,H l=some (.dict es n)∧UP l es n ps H Q mm:=by
 replace h:=Hf h
 focus(revert h;refine fun zo=>Ap zo (fun z0=>?_) fun z0=>?_;rotate_left;clear zo;refine BT z0 fun es n e t=>?_;clear z0;rotate_right;clear zo;refine AB z0 fun uu uu t=>?_;clear z0)
 ·exact t.elim
 ·exact Gn es n e t
theorem T_ {l:Addr}{name:Str}(hm:UQ (IG name)=true):∃id,Slot "list" name id∧typeOf (.builtin id)=pure (.type "method_descriptor")∧
  ∀{ps:List PV} {H:AH} {Q:PV→AH→Prop},b9 (IG name) l Q ps H→Op X d (fun us=>call (.builtin id) us) (.loc l::ps) H Q:=by
 refine Eb (Pp (x:=name) rfl) fun i1 i2 i3 i4 i5=>?_
 cases e:IG name with
 |append=>
  obtain rfl:=i1 e
  refine⟨_,F.slot_list_append,F.type_list_append,fun{ps H Q} t h s vs A E post x O r ok P=>?_⟩
  replace t:=Qb t
  revert t;refine fun zq=>AB zq fun us eu t=>?_;clear zq
  replace t:=PM t
  revert t;refine fun zq=>AB zq fun p z1 t=>?_;clear zq;subst z1
  refine Cv (QV r) fun a b z2 ra rb=>?_;subst z2
  cases C6 ra
  exact UY P O eu rb t.1 t.2
 |extend=>
  obtain rfl:=i2 e
  refine⟨_,J8,F.type_list_extend,fun{ps H Q} t h s vs A E post x O r ok P=>?_⟩
  replace t:=Qb t
  revert t;refine fun zq=>AB zq fun us eu t=>?_;clear zq
  replace t:=PM t
  revert t;refine fun zq=>AB zq fun p z1 t=>?_;clear zq;subst z1
  replace t:=Ii t
  revert t;refine fun zq=>AB zq fun m z1 t=>?_;clear zq;subst z1
  replace t:=Kn t
  revert t;refine fun zq=>AB zq fun ws ew t=>?_;clear zq
  refine Cv (QV r) fun a b z2 ra rb=>?_;subst z2
  cases C6 ra
  cases C6 rb
  exact UZ P O eu ew t.1 t.2.1 t.2.2
 |pop=>
  obtain rfl:=i3 e
  refine⟨_,KY,F.type_list_pop,fun{ps H Q} t h s vs A E post x O r ok P=>?_⟩
  replace t:=Qb t
  revert t;refine fun zq=>AB zq fun us eu t=>?_;clear zq
  replace t:=Y4 t
  revert t;refine fun zq=>Aw zq fun z0 t=>?_;clear zq;subst z0
  refine AB (SX r) fun a z1 ra=>?_;subst z1
  cases C6 ra
  cases ev:us.getLast? with
  |none=>rw[ev] at t;exact t.elim
  |some v=>rw[ev] at t;exact ZZ P O eu ev t.1 t.2
 |get=>rw[e] at hm;exact FI hm
 |setdefault=>rw[e] at hm;exact FI hm
 |other=>rw[e] at hm;exact FI hm
theorem U0 {l:Addr}{name:Str}(hm:UR (IG name)=true):∃id,Slot "dict" name id∧typeOf (.builtin id)=pure (.type "method_descriptor")∧
  ∀{ps:List PV} {H:AH} {Q:PV→AH→Prop},ba (IG name) l Q ps H→Op X d (fun us=>call (.builtin id) us) (.loc l::ps) H Q:=by
 refine Eb (Pp (x:=name) rfl) fun i1 i2 i3 i4 i5=>?_
 cases e:IG name with
 |get=>
  obtain rfl:=i4 e
  refine⟨_,K_,F.type_dict_get,fun{ps H Q} t h s vs A E post x O r ok P=>?_⟩
  have hu:=ok.lt
  replace t:=Qc t
  revert t;refine fun zq=>BT zq fun us n eu t=>?_;clear zq
  replace t:=UH t
  revert t;refine fun zq=>BT zq fun p q z2 t=>?_;clear zq;subst z2
  refine Wv (XC r) fun a b c z3 ra rb rc=>?_;subst z3
  cases C6 ra
  exact Z_ P O eu t.2.1 t.1 rb rc (by exact(Al [_,_] 0x1465280550141f43805502) hu) t.2.2
 |setdefault=>
  obtain rfl:=i5 e
  refine⟨_,GZ,F.type_dict_setdefault,fun{ps H Q} t h s vs A E post x O r ok P=>?_⟩
  have hu:=ok.lt
  replace t:=Qc t
  revert t;refine fun zq=>BT zq fun us n eu t=>?_;clear zq
  replace t:=UH t
  revert t;refine fun zq=>BT zq fun p q z2 t=>?_;clear zq;subst z2
  refine Wv (XC r) fun a b c z3 ra rb rc=>?_;subst z3
  cases C6 ra
  exact PU P O eu t.2.1 t.1 rb rc (by exact(Al [_,_] 0x1465280550141f43805502) hu) t.2.2
 |pop=>
  obtain rfl:=i3 e
  refine⟨_,KZ,F.type_dict_pop,fun{ps H Q} t h s vs A E post x O r ok P=>?_⟩
  have hu:=ok.lt
  replace t:=Qc t
  revert t;refine fun zq=>BT zq fun us n eu t=>?_;clear zq
  replace t:=PM t
  revert t;refine fun zq=>AB zq fun p z1 t=>?_;clear zq;subst z1
  refine Cv (QV r) fun a b z2 ra rb=>?_;subst z2
  cases C6 ra
  refine DF t fun t1 t2 t3=>?_;clear t
  cases eq:EH p us with
  |none=>rw[eq] at t3;exact t3.elim
  |some u=>rw[eq] at t3;exact Y9 P O eu t2 t1 rb (by exact(Al [_,_] 0x1465280550141f43805502) hu) eq t3
 |append=>rw[e] at hm;exact FI hm
 |extend=>rw[e] at hm;exact FI hm
 |other=>rw[e] at hm;exact FI hm
theorem RQ {y:Str}{ps:List PV}{H:AH}(c:ps=[]∧∃c,y=⟨#[c]⟩∧c∈([97,98,102,103]:List Nat)∧Q (.bool false) H):Op X d (fun us=>call (.builtin "str.isspace") us) (.str y::ps) H Q:=by
 refine Aw c fun z0 zr=>?_;clear c;subst z0;refine CP zr fun ch z1 hc q=>?_;clear zr;subst z1
 intro h s vs A E post x O r ok P
 refine AB (SX r) fun a z1 ra=>?_;subst z1
 refine Mc ra fun tk'=>?_
 have hb:Txt.isspace ⟨#[ch]⟩=false:=by
  simp only[Aq,Be,or_false] at hc
  focus(revert hc;refine fun zo=>Ap zo (fun z0=>?_) fun z0=>?_;rotate_left;clear zo;rcases z0 with rfl|rfl|rfl;rotate_right;clear zo;subst z0)<;>decide+kernel
 have P':post (.bool (Txt.isspace ⟨#[ch]⟩)) s:=P.here O (p:= .bool false) (by rw[hb];refine AP.b' ?_;rfl) q
 exact GV F.slot_str_isspace (typeIs_str _ _ _) F.entry_str_isspace (F.args_str_isspace_1 _) (gives_str_isspace _ tk').meets P'
theorem T0 {o:Expr}{ap cp:Pos}(hl:(ap.endLine == cp.line)=true):methodCallPos true o env ap cp=pure cp:=by
 have hl:=Et hl
 unfold methodCallPos
 simp[hl]
theorem R0 {es:List Expr}{cp:Pos}(hf:Zi es=true):methodCallForm (es.length+([]:List Keyword).length) (backTo cp (starEach es env)) (backToKw cp (keywordEach [] env))=true:=by
 unfold methodCallForm
 rw[QZ (Ee hf).1]
 have:=(Ee hf).2
 refine decide_eq_true ?_
 exact AJ ‹_› (by decide)
theorem O7 {o:Expr}{name:Str}{ap cp:Pos}{es:List Expr}(hp:GA o=true)(hf:Zi es=true)(hl:(ap.endLine == cp.line)=true)
  (to:TE X d env wr m H (eval o env) (fun p H1=>Pb X d name H1 (fun K=>Ml X d es sc m H1 K) Q p))
  (ta:∀H1 K,Ml X d es sc m H1 K→TL X d env wr m H1 (spliced (backTo cp (starEach es env))) K):TE X d env wr m H (eval (.Call (.Attribute o name ap) es [] cp) env) Q:=by
 intro h pv s A E post xi S ok k
 rewrite[arm_eval_Call];rw[Kw hp]
 refine A7 (to h pv s A E _ xi S ok fun ov s1 h1 p H1 k1 S1 r1 q1=>?_)
 refine A7 (B8 ?_)
 unfold methodCall
 rw[R0 hf]
 have hu:=ok.lt
 have fin:∀(f:Ac) (first:List PV) (fv:List Ac) (K:List PV→AH→Prop),Ml X d es sc m H1 K→AG h1 first fv→
   (∀ps H',K ps H'→(∀g:Heap,X.K.In g→∃k,(k=Fq∨k=DD∨k=Dl)∧Looks (model X.prog X.w) g (keeperOf f) k)∧Op X d (fun vs=>call f vs) (first++ps) H' Q)→
   wpAny (model X.prog X.w) A (methodCallPos true o env ap cp>>=fun callPos=>callWith callPos f fv (backTo cp (starEach es env)) (backToKw cp (keywordEach [] env))) post E s1:=by
  intro f first fv K v rf go
  refine A7 (Ek (T0 hl) ?_)
  exact N_ (Ee hf).1 (ta _ _ v) (xi.keeps k1) S1 ok rf go fun v s2 h2 p H2 k2 S2 r2 q2=>k v s2 h2 p H2 (k1.trans k2) S2 r2 q2
 replace q1:Pb X d name H1 (fun K=>Ml X d es sc m H1 K) Q p:=q1
 induction p using Mine.Internal.PV.casesOn with
 |inst C a dd=>
  replace q1:Rz X d (.inst C a dd) name (fun K=>Ml X d es sc m H1 K) Q (H1 dd) (X.meth C name):=q1
  cases ef:X.meth C name with
  |none=>rw[ef] at q1;exact q1.elim
  |some f=>
   rw[ef] at q1
   replace q1:=Rx q1
   revert q1;refine fun zq=>AB zq fun es' ea q1=>?_;clear zq
   replace q1:=CX q1
   revert q1;refine fun zq=>Aw zq fun q0 q1=>?_;clear zq
   have en:=JG▸GW.mp q0
   refine A7 (Ay ?_)
   refine(?_:wpAny _ _ (getMethod ov _ _) _ _ _)
   refine FB (xi.keeps k1) S1.own r1 ef ea en ?_
   refine fin (.ref f) [.inst C a dd] [ov] _ q1 (by refine AG.d ?_;exact⟨r1,trivial⟩) fun ps H' c=>?_
   refine Aw (id c) fun z0 uu=>?_;refine AB z0 fun u' e hk=>?_;clear z0
   cases e
   exact⟨fun g x=>keeps_K hk g x,Q_ c⟩
 |loc l=>
  cases C6 r1
  replace q1:=Hf q1
  focus(revert q1;refine fun zo=>Ap zo (fun z0=>?_) fun z0=>?_;rotate_left;clear zo;refine BT z0 fun us n eu q1=>?_;clear z0;rotate_right;clear zo;refine AB z0 fun us eu q1=>?_;clear z0)
  ·replace q1:=CX q1
   revert q1;refine fun zq=>Aw zq fun q0 q1=>?_;clear zq
   refine CP (T_ (X:=X) (d:=d) (l:=l) q0) fun id slot hty go=>?_
   refine BT (S1.own.isList eu) fun xs n g rr=>?_
   refine A7 (Ay ?_)
   refine(?_:wpAny _ _ (getMethod (.ref l) _ _) _ _ _)
   refine LQ (T:="list") ⟨_,g,rfl⟩ F.plainAttrs_list slot hty (fun a ea=>by cases ea;exact⟨_,g,rfl⟩) ?_
   exact fin (.builtin id) [.loc l] [.ref l] _ q1 (AG.d ⟨rfl,AG.n⟩) fun ps H' c=>⟨F8 rfl,go c⟩
  ·replace q1:=CX q1
   revert q1;refine fun zq=>Aw zq fun q0 q1=>?_;clear zq
   refine CP (U0 (X:=X) (d:=d) (l:=l) q0) fun id slot hty go=>?_
   refine AB (S1.own.isDict eu) fun xs g rr=>?_
   refine A7 (Ay ?_)
   refine(?_:wpAny _ _ (getMethod (.ref l) _ _) _ _ _)
   refine LQ (T:="dict") ⟨_,g,rfl⟩ F.plainAttrs_dict slot hty (fun a ea=>by cases ea;exact⟨_,g,rfl⟩) ?_
   exact fin (.builtin id) [.loc l] [.ref l] _ q1 (AG.d ⟨rfl,AG.n⟩) fun ps H' c=>⟨F8 rfl,go c⟩
 |str y=>
  replace q1:=CX q1
  revert q1;refine fun zq=>Aw zq fun q0 q1=>?_;clear zq
  obtain rfl:=F1.mp q0
  refine Mc r1 fun tk=>?_
  refine A7 (Ay ?_)
  refine(?_:wpAny _ _ (getMethod (.str y tk) "isspace" _) _ _ _)
  refine GM.isspace ?_
  refine fin (.builtin "str.isspace") [.str y] [.str y tk] _ q1 (AG.d ⟨⟨_,rfl⟩,AG.n⟩) fun ps H' c=>⟨F8 rfl,?_⟩
  exact RQ c
 |_=>exact q1.elim
end
end
section
set_option backward.match.sparseCases true
open Classical
section
variable {X:Ctx}{h:Heap}{env:Env}{wr:Bool}{pv:List (Addr×Obj)}{m:LM}{H:AH}{s:Ad}
theorem AG.map {h h':Heap}(r:∀p v,AP h p v→AP h' p v):∀{ps:List PV} {vs:List Ac},AG h ps vs→AG h' ps vs
 |[],[],_=>by exact AG.n
 |[],_::_,x=>by exact AF x
 |_::_,[],x=>by exact AF x
 |p::ps,v::vs,x=>AG.d ⟨r _ _ (AG.c x).1,AG.map r (AG.c x).2⟩
theorem Own.ext (x:X.In h)(O:Own X h H s){I:Addr}{h':Heap}{tk:Nat}(hI:h.get? I=none)(HI:H I=none)(e:∀b o,b≠I→s.heap.get? b=some o→h'.get? b=some o):Own X h H {s with heap:=h',toks:=tk}:=by
 refine O.walked (L:=[I]) (fun b hb=>by rw[Ao.mp hb];exact⟨hI,HI⟩) (fun b ob nb q=>e b ob (by simpa using nb) q) O.gens O.os ?_
 rcases x.lo with⟨a,oa,la,ga⟩
 exact Aa la (AU (Ax (e a oa (fun q=>by rw[q,hI] at ga;exact CC ga) (O.keep _ _ ga))))
theorem Vn (x:X.In h){ok:AH→Prop}{items:List PV}{src:Src}{I:Addr}(f:NE h ok items src)(hok:ok H)(hI:h.get? I=none)(HI:H I=none){A:B2}{E:Ac→Ad→Prop}(hA:A.handled=X.exc.map .ref):
  ∀(n i:Nat) (s:Ad) (o:Obj) (post:List Ac→Ad→Prop),Own X h H s→s.heap.get? I=some o→FU o i src→i+n≤items.length→
   (∀vs s' o',AG h ((items.drop i).take n) vs→Own X h H s'→s'.heap.get? I=some o'→FU o' (i+n) src→post vs s')→wpAny (model X.prog X.w) A (draw (.ref I) n) post E s
 |0,i,s,o,post,O,g,t,hl,k=>by
  refine(?_:wpAny _ _ (pure []) post E s)
  exact A9 (k [] s o AG.n O g t)
 |n+1,i,s,o,post,O,g,t,hl,k=>by
  refine(?_:wpAny _ _ (pyNext (.ref I)>>=_) post E s)
  refine A7 (Mf x O f hok g t hI HI hA (by exact(Al [_,_,_] 0x10014250502) hl) (fun p v h' o' tk le e r g' t' sb=>?_) fun ge=>absurd hl (by exact(Al [_,_,_] 0x5241505020202) ge))
  refine A7 (Ay (Vn x f hok hI HI hA n (i+1) _ o' _ (O.ext x hI HI fun b o nb q=>(sb.2 b nb).trans q) g' t' (by exact(Al [_,_,_] 0x214055024150502) hl) fun vs s' o2 r2 O2 g2 t2=>A9 ?_))
  have lt:i<items.length:=by exact(Al [_,_,_] 0x1405014250502) hl
  have e0:items[i]=p:=by rw[Ah lt] at e;exact Ai e
  refine k (v::vs) s' o2 ?_ O2 g2 (by rewrite[show i+(n+1)=i+1+n by exact(Al [_,_] 0x14055415051)];exact t2)
  rw[CB lt,List.take_succ_cons,e0]
  refine AG.d ?_
  exact⟨r,r2⟩
theorem OV (x:X.In h)(O:Own X h H s){p:PV}{u:Ac}{ps:List PV}(r:AP h p u)(e:Tw p H=some ps)(hz:ps.length≤100){A:B2}{E:Ac→Ad→Prop}(hA:A.handled=X.exc.map .ref){post:List Ac→Ad→Prop}
  (k:∀vs s',AG h ps vs→Own X h H s'→post vs s'):wpAny (model X.prog X.w) A (unpackItems u ps.length none) post E s:=by
 have main:∀(T:String) (id:String),s.TypeIs u T→typeLookup (.type T) "__iter__"=pure (some (.builtin id))→IF H (fun ok items=>items=ps) p→wpAny (model X.prog X.w) A (unpackItems u ps.length none) post E s:=by
  intro T id hT hl vi
  refine A7 ?_
  refine A7 (EO hT hl ?_)
  refine A9 ?_
  refine A7 (Ay (PX x O r vi fun I o ok items src hK hok f tn hI uu=>?_))
  subst hK hI
  have hI:h.get? s.heap.objs.size=none:=by
   cases z:h.get? s.heap.objs.size with
   |none=>rfl
   |some y=>exact absurd (Ax (O.keep _ _ z)) (BO _)
  refine A7 (Ay (Vn x f hok hI O.fresh hA _ 0 _ o _ (O.push o) (Ar _ tn.plain.2) tn (by exact(Al [_] 0x750)) fun vs s' o' r' O' g' t'=>?_))
  rw[OJ,List.take_of_length_le (Ak _)] at r'
  have z:=r'.len
  rewrite[if_neg (by exact(Al [_,_] 0x51405020112) z)]
  refine A7 (Ay (Mf x O' f hok g' t' hI O.fresh hA (by exact(Al [_] 0x750)) (fun p v h' o' tk le e=>?_) fun uu h' eb=>?_))
  ·rw[Bg (by exact(Al [_] 0x7500))] at e;exact CC e
  ·simp only[KR,BN,if_false]
   exact A9 (k vs _ r' ((O'.ext x hI O.fresh (tk:=s'.toks) fun b o nb q=>eb b o nb q)))
 induction p using Mine.Internal.PV.casesOn with
 |tup vs=>
  replace e:=Ai e;subst e
  refine Cv (FK r) fun a xs z2 g rr=>?_;subst z2
  exact main "tuple" _ ⟨_,O.keep _ _ g,rfl⟩ F.slot_tuple_iter.lookup ⟨Aa hz (by decide),rfl⟩
 |loc a=>
  have eu:=Lj e
  cases C6 r
  refine BT (O.isList eu) fun xs n g rr=>?_
  exact main "list" _ ⟨_,g,rfl⟩ F.slot_list_iter.lookup (by refine(?_:Ni (H _) _ _);rw[eu];exact⟨Aa hz (by decide),rfl⟩)
 |_=>exact CC e
theorem St.unpack (S:St X h env wr pv m H s)(x:X.In h){d:Nat}{p:PV}{u:Ac}{ps:List PV}(r:AP h p u)(e:Tw p H=some ps)(hz:ps.length≤100){A:B2}{E:Ac→Ad→Prop}(ok:Lh X d A){post:List Ac→Ad→Prop}
  (k:∀vs s' h₁,BH h h₁→St X h₁ env wr pv m H s'→AG h₁ ps vs→post vs s'):wpAny (model X.prog X.w) A (unpackItems u ps.length none) post E s:=by
 have kf:=S.own.keepsFrz
 refine OV (x.keeps kf) S.own.freeze (AP.keeps kf _ r) e hz ok.2.2 fun vs s' r' O'=>?_
 refine CP (S.after (Bp _) O') fun h₂ k2 S2 rr=>?_
 exact k vs s' h₂ k2 S2 (AG.map rr r')
theorem St.pushP (S:St X h env wr pv m H s){o:Obj}(pl:DQ o)(hf:o.isFreed=false):St X h env wr ((s.heap.objs.size,o)::pv) m H {s with heap:=s.heap.push o}:=by
 have kp:∀b ob,s.heap.get? b=some ob→(s.heap.push o).get? b=some ob:=fun b ob e=>Aj _ e
 have hn:h.get? s.heap.objs.size=none:=by
  cases z:h.get? s.heap.objs.size with
  |none=>rfl
  |some y=>exact absurd (Ax (S.own.keep _ _ z)) (BO _)
 rcases S.ns with⟨mc,n,rr⟩
 have ll:env.locals<s.heap.objs.size:=by refine M7 (id n) fun o' uu uu g uu=>?_;exact Ax g
 refine⟨S.own.push o,S.kind,S.glo,S.bi,⟨mc,n.keeps kp,rr⟩,S.nsO,fun y w e ky=>?_,fun wt y ky=>?_,fun q hq=>?_⟩
 ·refine Cv (S.cl y w e ky) fun c u l ic r1=>?_
  exact FQ c u l (ic.keeps kp) r1
 ·refine L9 (S.clO wt y ky) fun c v₀ l ic hn Hn ne ap pa=>?_
  refine Ic c v₀ l (ic.keeps kp) hn Hn ne ap (fun q hq=>?_)
  refine Ap (Aq.mp hq) (fun z0=>?_) fun hq=>?_;subst z0
  ·exact Cc ic.lt
  ·exact pa q hq
 ·refine Ap (Aq.mp hq) (fun z0=>?_) fun hq=>?_;subst z0
  ·exact⟨Ar _ hf,hn,S.own.fresh,Cc ll,pl⟩
  ·refine Eb (S.pvO q hq) fun g a b c e=>?_
   exact⟨kp _ _ g,a,b,c,e⟩
theorem St.pvLt (S:St X h env wr pv m H s):∀q∈pv,q.1<s.heap.objs.size:=fun q hq=>Ax (S.pvO q hq).1
theorem St.dropP {q:Addr×Obj}(S:St X h env wr (q::pv) m H s):St X h env wr pv m H s:=
 ⟨S.own,S.kind,S.glo,S.bi,S.ns,S.nsO,S.cl,fun wt y ky=>by
  refine L9 (S.clO wt y ky) fun c v₀ l ic hn Hn ne ap pa=>?_
  exact Ic c v₀ l ic hn Hn ne ap (fun q hq=>pa q (Af _ hq)),fun q hq=>S.pvO q (Af _ hq)⟩
theorem St.swapP {I:Addr}{o o':Obj}(S:St X h env wr ((I,o)::pv) m H s)(x:X.In h){h':Heap}{tk:Nat}(hq:∀q∈pv,q.1≠I)(hd:∀v,o.data≠ .cell v)(hk:∀b ob,b≠I→s.heap.get? b=some ob→h'.get? b=some ob)
  (g:h'.get? I=some o')(pl:DQ o'):St X h env wr ((I,o')::pv) m H {s with heap:=h',toks:=tk}:=by
 refine Eb (S.pvO (I,o) (Ab ..)) fun gI hn Hn ne uu=>?_
 rcases S.ns with⟨mc,n,rr⟩
 refine M7 (id n) fun ol es ep gl q=>?_
 refine⟨S.own.ext x hn Hn hk,S.kind,S.glo,S.bi,⟨mc,⟨ol,es,ep,hk _ _ (Ck ne) gl,q⟩,rr⟩,S.nsO,fun y w e ky=>?_,fun wt y ky=>?_,fun q hqq=>?_⟩
 ·refine Cv (S.cl y w e ky) fun c u l z3 r1=>?_;refine AB z3 fun oc gc dc=>?_;clear z3
  refine FQ c u l ⟨oc,hk _ _ (fun z=>?_) gc,dc⟩ r1
  subst z
  rw[gI] at gc
  replace gc:=Ai gc;subst gc
  exact hd _ dc
 ·refine L9 (S.clO wt y ky) fun c v₀ l z3 hn Hn ne ap pa=>?_;refine AB z3 fun oc gc dc=>?_;clear z3
  have:=pa (I,o) (Ab ..)
  refine Ic c v₀ l ⟨oc,hk _ _ (Ck this) gc,dc⟩ hn Hn ne ap (fun q hq'=>?_)
  refine Ap (Aq.mp hq') (fun z0=>?_) fun hq'=>?_;subst z0
  ·exact this
  ·exact pa q (Af _ hq')
 ·refine Ap (Aq.mp hqq) (fun z0=>?_) fun hqq=>?_;subst z0
  ·exact⟨g,hn,Hn,ne,pl⟩
  ·refine Eb (S.pvO q (Af _ hqq)) fun g2 a b c e=>?_
   exact⟨hk _ _ (hq q hqq) g2,a,b,c,e⟩
theorem FU.noCell {o:Obj}{i:Nat}:∀{src:Src},FU o i src→∀v,o.data≠ .cell v
 | .list _,t,v,e=>by rw[t.2] at e;cases e
 | .tup _,t,v,e=>by rw[t.2] at e;cases e
 | .rng _ _,t,v,e=>by unfold FU at t;rw[t] at e;cases e
 | .keys _ _ _,t,v,e=>by rw[t.2] at e;cases e
 | .str _ _,t,v,e=>by rw[t.2] at e;cases e
theorem FU.typed {o:Obj}{i:Nat}:∀{src:Src},FU o i src→∃(T:String) (vs:Array Ac),o.cls= .type T∧o.data= .fields vs∧T∈["list_iterator","tuple_iterator","range_iterator","dict_keyiterator","str_ascii_iterator"]
 | .list _,t=>⟨_,_,t.1,t.2,by decide⟩
 | .tup _,t=>⟨_,_,t.1,t.2,by decide⟩
 | .rng _ _,t=>by unfold FU at t;rw[t];exact FQ _ _ rfl rfl (by decide)
 | .keys _ _ _,t=>⟨_,_,t.1,t.2,by decide⟩
 | .str _ _,t=>⟨_,_,t.1,t.2,by decide⟩
theorem O8 {M:Model}{A:B2}{E:Ac→Ad→Prop}{I:Addr}{o:Obj}{i:Nat}{src:Src}{t:Expr}{v:Ac}{post:Unit→Ad→Prop}(g:s.heap.get? I=some o)(tn:FU o i src)(k:post () s):
  wpAny M A (letOwnedTupleGo t (.ref I) v) post E s:=by
 rcases tn.typed with⟨T,vs,hc,hd,hT⟩
 have H:(∃x c p,letOwnedTupleGo t (.ref I) v=letOwnedTupleGo (.Tuple x c p) (.ref I) v)∨letOwnedTupleGo t (.ref I) v=pure ():=by
  induction t using AA<;>first|exact .inr rfl|exact .inl ⟨by assumption,by assumption,by assumption,rfl⟩
 refine H.elim (fun H=>?_) fun e=>e▸A9 k
 refine XX H fun x c p e=>?_
 rw[e]
 clear H e
 induction v using Ev<;>first|exact A9 k|skip
 refine A7 (L0 g ?_)
 rw[hc,hd]
 simp only[Aq,Be,or_false] at hT
 focus(revert hT;refine fun zo=>Ap zo (fun z0=>?_) fun z0=>?_;rotate_left;clear zo;rcases z0 with rfl|rfl|rfl|rfl;rotate_right;clear zo;subst z0)<;>exact A9 k
end
end
section
open Classical
theorem Ly {e:Expr}{env:Env}{x:Ac}(h:Jb e=false):foldedSetIterable e env x=pure x:=by
 induction e using AA<;>first|rfl|exact aZ h
section
variable {X:Ctx}{h:Heap}{env:Env}{wr:Bool}{pv:List (Addr×Obj)}{m:LM}{H:AH}{s:Ad}{d:Nat}
theorem St.offP {I:Addr}{o:Obj}(S:St X h env wr ((I,o)::pv) m H s)(x:X.In h){h':Heap}{tk:Nat}(hq:∀q∈pv,q.1≠I)(hd:∀v,o.data≠ .cell v)(hk:∀b ob,b≠I→s.heap.get? b=some ob→h'.get? b=some ob):
  St X h env wr pv m H {s with heap:=h',toks:=tk}:=by
 refine Eb (S.pvO (I,o) (Ab ..)) fun gI hn Hn ne uu=>?_
 rcases S.ns with⟨mc,n,rr⟩
 refine M7 (id n) fun ol es ep gl q=>?_
 refine⟨S.own.ext x hn Hn hk,S.kind,S.glo,S.bi,⟨mc,⟨ol,es,ep,hk _ _ (Ck ne) gl,q⟩,rr⟩,S.nsO,fun y w e ky=>?_,fun wt y ky=>?_,fun q hqq=>?_⟩
 ·refine Cv (S.cl y w e ky) fun c u l z3 r1=>?_;refine AB z3 fun oc gc dc=>?_;clear z3
  refine FQ c u l ⟨oc,hk _ _ (fun z=>?_) gc,dc⟩ r1
  subst z
  rw[gI] at gc
  replace gc:=Ai gc;subst gc
  exact hd _ dc
 ·refine L9 (S.clO wt y ky) fun c v₀ l z3 hn Hn ne ap pa=>?_;refine AB z3 fun oc gc dc=>?_;clear z3
  have:=pa (I,o) (Ab ..)
  exact Ic c v₀ l ⟨oc,hk _ _ (Ck this) gc,dc⟩ hn Hn ne ap (fun q hq'=>pa q (Af _ hq'))
 ·refine Eb (S.pvO q (Af _ hqq)) fun g2 a b c e=>?_
  exact⟨hk _ _ (hq q hqq) g2,a,b,c,e⟩
theorem U1 {target:Expr}{body:List Stmt}{asg:PV→LM→AH→(LM→AH→Prop)→Prop}{bod:LM→AH→(Fl→LM→AH→Prop)→Prop}
  (asgT:∀p m H K,asg p m H K→TV X d env wr m H p (assign target env) K)(bodT:∀m H K,bod m H K→TF X d env wr m H (execs body env) K)
  {ok:AH→Prop}{items:List PV}{src:Src}{I:Addr}{Q:Fl→LM→AH→Prop}{A:B2}{R:Result→Ad→Prop}(hok:Lh X d A){h0:Heap}(x:X.In h0)(f:NE h0 ok items src)(hq:∀q∈pv,q.1≠I)
  (hR:∀fl f s' h' m' H',BH h0 h'→St X h' env wr pv m' H' s'→ZV h' fl f→Q fl m' H'→R (.ok f) s')
  {o:Obj}(S:St X h0 env wr ((I,o)::pv) m H s)(t:FU o 0 src)(v:Hh ok asg bod items m H Q):codeAny (model X.prog X.w) A (.forLoop target (.ref I) body [] env) R s:=by
 refine codeAny_loop' rfl (fun n s'=>∃i o m' H' h',n=items.length-i∧i≤items.length∧BH h0 h'∧St X h' env wr ((I,o)::pv) m' H' s'∧FU o i src∧Hh ok asg bod (items.drop i) m' H' Q) (fun n s hI=>?_) items.length
  ⟨0,o,m,H,h0,rfl,AM _,Bp _,S,t,v⟩
 refine AI hI fun i zr=>?_;clear hI;refine AI zr fun o zr=>?_;refine Tq zr fun m' H' h' z3 hi kp S t v=>?_;clear zr;subst z3
 refine(?_:wpAny _ _ ((forTurn target (.ref I) body [] env).onRaise (fun x=>do noteFrame x env;theTreesLotGoes x)) _ _ s)
 refine wpAny_noted ?_
 have x':=x.keeps kp
 refine Eb (S.pvO (I,o) (Ab ..)) fun gI hn Hn ne uu=>?_
 have hok':ok H':=by
  cases e:items.drop i with
  |nil=>rw[e] at v;exact v.1
  |cons a b=>rw[e] at v;exact v.1
 refine A7 (B8 (A7 (wpAny_onRaise ?_)))
 refine Mf x' S.own (f.keeps kp) hok' gI t hn Hn hok.2.2 hi (fun p u h'' o' tk le e r g' t' sb=>?_) fun ge h'' eb=>?_
 ·have lt:i<items.length:=by
   refine Ap (Cy i items.length) (fun lt=>?_) fun ge=>?_
   ·exact lt
   ·rw[Bg ge] at e;exact CC e
  have e0:items[i]=p:=by rw[Ah lt] at e;exact Ai e
  have S1:=S.swapP x' (h':=h'') (tk:=tk) hq t.noCell (fun b ob nb q=>(sb.2 b nb).trans q) g' t'.plain.1
  rw[CB lt,e0] at v
  replace v:=v.2
  refine A7 (O8 g' t' ?_)
  refine A7 (asgT _ _ _ _ v h' _ _ A _ _ u x' S1 hok r fun s2 h2 m2 H2 k2 S2 q2=>?_)
  refine A7 (bodT _ _ _ q2 h2 _ s2 A _ _ (x'.keeps k2) S2 hok fun fm s3 h3 fl m3 H3 k3 S3 r3 q3=>?_)
  have k03:BH h0 h3:=kp.trans (k2.trans k3)
  induction fl using Mine.Internal.Fl.casesOn with
  |next=>
   subst r3
   exact A9 (.inl ⟨rfl,items.length-(i+1),by exact(Al [_,_] 0x10644150650041502) lt,i+1,o',m3,H3,h3,rfl,lt,k03,S3,t',q3⟩)
  |cont=>
   subst r3
   exact A9 (.inl ⟨rfl,items.length-(i+1),by exact(Al [_,_] 0x10644150650041502) lt,i+1,o',m3,H3,h3,rfl,lt,k03,S3,t',q3⟩)
  |brk=>
   subst r3
   exact A9 (hR .next .next s3 h3 m3 H3 k03 S3.dropP rfl q3)
  |ret p3=>
   refine AB r3 fun w3 z1 rw3=>?_;clear r3;subst z1
   exact A9 (hR (.ret p3) (.ret w3) s3 h3 m3 H3 k03 S3.dropP ⟨w3,rfl,rw3⟩ q3)
 ·have S1:=S.offP x' (h':=h'') (tk:=s.toks) hq t.noCell eb
  rw[IB ge] at v
  refine A9 (.inr ⟨rfl,codeAny_block (Gc ?_)⟩)
  exact hR .next .next _ h' m' H' kp S1 rfl v.2
theorem ay {target iter:Expr}{body:List Stmt}{pos:Pos}{asg:PV→LM→AH→(LM→AH→Prop)→Prop}{bod:LM→AH→(Fl→LM→AH→Prop)→Prop}
  (hs:Jb iter=false)
  (asgT:∀p m H K,asg p m H K→TV X d env wr m H p (assign target env) K)(bodT:∀m H K,bod m H K→TF X d env wr m H (execs body env) K){Q:Fl→LM→AH→Prop}
  (ti:TE X d env wr m H (eval iter env) (fun src H1=>IF H1 (fun ok items=>Hh ok asg bod items m H1 Q) src)):TF X d env wr m H (exec (.For target iter body [] pos) env) Q:=by
 intro h pv s A E post xi S ok k
 refine wpAny_For ?_ (fun x=>Ly hs)
 refine ti h pv s A _ _ xi S ok fun v s1 h1 src H1 k1 S1 r1 q1=>?_
 refine PX (xi.keeps k1) S1.own r1 q1 fun I o okk items sc hK hok f tn hI uu=>?_
 subst hI
 refine U1 (s:={s1 with heap:=s1.heap.push o}) asgT bodT ok (xi.keeps k1) f (fun q hq=>BL (S1.pvLt q hq)) (fun fl f s' h' m' H' k' S' r' q'=>?_) (S1.pushP tn.plain.1 tn.plain.2) tn hK
 exact k f s' h' fl m' H' (k1.trans k') S' r' q'
theorem WX {test:Expr}{body:List Stmt}{pos:Pos}{tst:LM→AH→(Bool→AH→Prop)→Prop}{bod:LM→AH→(Fl→LM→AH→Prop)→Prop}
  (tstT:∀m H K,tst m H K→TB X d env wr m H (isTrue test env (eval test env)) K)(bodT:∀m H K,bod m H K→TF X d env wr m H (execs body env) K){Q:Fl→LM→AH→Prop}
  (v:∃n,Ij tst bod n m H Q):TF X d env wr m H (exec (.While test body [] pos) env) Q:=by
 intro h pv s A E post xi S ok k
 revert v;refine fun zq=>AI zq fun n v=>?_;clear zq
 refine wpAny_While (codeAny_whileLoop (fun n s'=>∃m' H' h',BH h h'∧St X h' env wr pv m' H' s'∧Ij tst bod n m' H' Q) (fun n s hI=>?_) n ⟨m,H,h,Bp _,S,v⟩)
 refine Qt hI fun m' H' h' kp S v=>?_;clear hI
 cases n with
 |zero=>exact v.elim
 |succ n=>
  refine tstT _ _ _ v h' pv s A _ _ (xi.keeps kp) S ok fun b s1 h1 H1 k1 S1 q1=>?_
  induction b using AX with
  |true=>
   rw[if_pos rfl] at q1 ⊢
   refine bodT _ _ _ q1 h1 pv s1 A _ _ (xi.keeps (kp.trans k1)) S1 ok fun fm s3 h3 fl m3 H3 k3 S3 r3 q3=>?_
   have k03:BH h h3:=kp.trans (k1.trans k3)
   induction fl using Mine.Internal.Fl.casesOn with
   |next=>subst r3;exact⟨n,Bx _,m3,H3,h3,k03,S3,q3⟩
   |cont=>subst r3;exact⟨n,Bx _,m3,H3,h3,k03,S3,q3⟩
   |brk=>subst r3;exact k .next s3 h3 .next m3 H3 k03 S3 rfl q3
   |ret p3=>
    refine AB r3 fun w3 z1 rw3=>?_;clear r3;subst z1
    exact k (.ret w3) s3 h3 (.ret p3) m3 H3 k03 S3 ⟨w3,rfl,rw3⟩ q3
  |false=>
   rw[if_neg (by decide)] at q1 ⊢
   refine Gc ?_
   exact k .next s1 h1 .next m' H1 (kp.trans k1) S1 rfl q1
end
end
section
open Classical
section
variable {X:Ctx}{h:Heap}{env:Env}{wr:Bool}{pv:List (Addr×Obj)}{m:LM}{H:AH}{s:Ad}{d:Nat}
theorem Km.notCell {P:Params}{po:PO}{o:Obj}{v:Option Ac}(r:Km P h po o)(d:o.data= .cell v):False:=by
 induction po using Mine.Internal.PO.casesOn with
 |list vs=>refine BT r fun uu uu e' uu=>?_;clear r;rw[e'] at d;cases d
 |dict es n=>refine AB r fun uu e' uu=>?_;clear r;rw[e'] at d;cases d
 |attrs es=>refine BT r fun uu uu e' uu=>?_;clear r;rw[e'] at d;cases d
 |set vs=>refine M7 r fun uu uu uu e' uu=>?_;clear r;rw[e'] at d;cases d
 |enum src=>refine M7 r fun uu uu uu e' uu=>?_;clear r;rw[e'] at d;cases d
set_option tactic.hygienic true in
theorem St.guards (S:St X h env wr pv m H s):∃gl:List (Addr×Obj),(∀q∈gl,s.heap.get? q.1=some q.2∧h.get? q.1=none∧H q.1=none∧DQ q.2)∧
  ∀h' H' s',BH h h'→Own X h' H' s'→(∀q∈gl,s'.heap.get? q.1=some q.2∧h'.get? q.1=none∧H' q.1=none)→St X h' env wr pv m H' s':=by
 rcases S.ns with⟨mc,n,rr⟩
 refine M7 (id n) fun ol es ep gl q=>?_
 refine⟨(env.locals,ol)::(env.cells.filterMap fun yc=>match s.heap.get? yc.2 with|some oc=>if(∃v,oc.data= .cell v)∧h.get? yc.2=none then some (yc.2,oc) else none|none=>none)++pv,fun q hq=>?_,fun h' H' s' k O' hg=>?_⟩
 ·refine Ap (B6.mp hq) (fun hq=>?_) fun hq=>?_
  ·refine Ap (Aq.mp hq) (fun z0=>?_) fun hq=>?_;subst z0
   ·exact⟨gl,S.nsO.1,S.nsO.2,Qy n gl⟩
   ·refine AB (Co.mp hq) fun yc hm e=>?_
    split at e
    ·rename_i oc g
     split at e
     ·rename_i c
      replace e:=Ai e;subst e
      refine Aw c fun z0 hn=>?_;clear c;refine AI z0 fun v dv=>?_;clear z0
      refine⟨g,hn,?_,Nv ⟨oc,g,dv⟩ g⟩
      cases z:H yc.2 with
      |none=>rfl
      |some po=>
       refine Aw (S.own.cell _ po z) fun uu zr=>?_;refine AB zr fun o' g' r'=>?_;clear zr
       rw[g] at g'
       replace g':=Ai g';subst g'
       exact(r'.notCell dv).elim
     ·exact CC e
    ·exact CC e
  ·refine Eb (S.pvO q hq) fun g a b c e=>?_
   exact⟨g,a,b,e⟩
 ·have gL:=hg (env.locals,ol) (G3 _ (Ab ..))
  have gC:∀y c v,env.cells.lookup y=some c→s.heap.IsCell c v→s'.heap.IsCell c v∧(h.get? c=none→h'.get? c=none∧H' c=none):=by
   intro y c v l z24;refine AB z24 fun oc g dv=>?_;clear z24
   by_cases hn:h.get? c=none
   ·have:=hg (c,oc) (G3 _ (Af _ (Co.mpr ⟨(y,c),mem_of_lookup l,by
     rw[g]
     dsimp only
     rw[if_pos ⟨⟨v,dv⟩,hn⟩];rfl⟩)))
    exact⟨⟨oc,this.1,dv⟩,fun uu=>this.2⟩
   ·refine⟨?_,fun z=>absurd z hn⟩
    cases e:h.get? c with
    |none=>exact absurd e hn
    |some o2=>
     have:=S.own.keep _ _ e
     rw[g] at this
     replace this:=Ai this;subst this
     exact⟨oc,O'.keep _ _ (k _ _ e),dv⟩
  refine⟨O',S.kind,S.glo,S.bi,⟨mc,⟨ol,es,ep,gL.1,q⟩,fun x v e kx=>?_⟩,gL.2,fun x v e kx=>?_,fun wt y ky=>?_,fun q hq=>?_⟩
  ·refine AB (rr x v e kx) fun c e1 r1=>?_
   exact⟨c,e1,AP.keeps k _ r1⟩
  ·refine Cv (S.cl x v e kx) fun c w l ic r=>?_
   exact FQ c w l ((gC _ _ _ l ic).1) (AP.keeps k _ r)
  ·refine L9 (S.clO wt y ky) fun c v₀ l ic hn Hn ne ap pa=>?_
   have:=gC _ _ _ l ic
   exact Ic c v₀ l this.1 ((this.2 hn).1) ((this.2 hn).2) ne ap pa
  ·refine Eb (S.pvO q hq) fun g a b c e=>?_
   have:=hg q (DV _ hq)
   exact⟨this.1,this.2.1,this.2.2,c,e⟩
theorem O9 {prog:Program}{w:World}{A:B2}{E:Ac→Ad→Prop}{D:Addr}{xs:List Ac}{n:Nat}{v:Ac}{Q:Ac→Ad→Prop}(g:s.heap.get? D=some (Go xs n))(hz:xs.length≤100000)
  (k:∀h' n',h'.get? D=some (Go (xs++[v]) n')→Cm D s.heap h'→Q .none {s with heap:=h'}):wpAny (model prog w) A (call (.builtin "list.append") [.ref D,v]) Q E s:=by
 refine B4 slot_list_append ⟨_,g,rfl⟩ LR ?_ (args_list_append _ _)
 refine(?_:wpAny _ _ (updateSeq D (·.push v)>>=fun uu=>ret .none) _ _ s)
 refine A7 (Gb g rfl (A9 ⟨.none,rfl,k _ (n+1) ((EP g _).trans (by simp)) (Au ..)⟩) (by rw[AE,AV];exact Aa ‹_› (by decide)) (by simp only[LS,AE,AC,AQ,Gg];rw[AV];exact AJ ‹_› (by decide)))
theorem RR {prog:Program}{w:World}{A:B2}{E:Ac→Ad→Prop}{I:Addr}{o:Obj}{i:Nat}{src:Src}{Q:Ac→Ad→Prop}(g:s.heap.get? I=some o)(t:FU o i src)(hQ:Q (.ref I) s):wpAny (model prog w) A (pyIter (.ref I)) Q E s:=by
 induction src using Mine.Internal.Src.casesOn with
 |list a=>exact I_ ⟨o,g,t⟩ hQ
 |tup a=>exact It ⟨o,g,t⟩ hQ
 |rng lo n=>unfold FU at t;subst t;exact Iu g hQ
 |keys dd n ep=>exact Jq (i:=i) ⟨o,g,t⟩ hQ
 |str y t'=>exact GJ ⟨o,g,t⟩ hQ
end
def Lz (env:Env):SC→List (Str×Addr)→List (Str×Addr)
 |[],acc=>acc
 |(n,k)::r,acc=>Lz env r (if k == .free then(n,(env.cells.lookup n).getD 0)::acc else acc)
theorem LA {env:Env}{n:Str}{k:NameKind}{r:SC}{acc:List (Str×Addr)}:Lz env ((n,k)::r) acc=Lz env r (if k == .free then(n,(env.cells.lookup n).getD 0)::acc else acc):=rfl
theorem T1 {env:Env}:∀{names:SC} (acc:List (Str×Addr)) (f:(Str×NameKind)→List (Str×Addr)→Sem (ForInStep (List (Str×Addr)))),
  (∀n k a,f (n,k) a=if k == .free then(do let c←cellOf env n;pure (.yield ((n,c)::a))) else pure (.yield a))→
  (∀x∈names,x.2= .free→∃c,env.cells.lookup x.1=some c)→forIn names acc f=(pure (Lz env names acc):Sem _)
 |[],acc,f,_,_=>by rw[JC];rfl
 |(n,k)::r,acc,f,hf,hc=>by
  rw[Nd _ _ _ _,hf _ _ _]
  have ih:=fun a=>T1 (env:=env) (names:=r) a f hf fun x hx=>hc x (Af _ hx)
  cases hk:k == .free with
  |true=>
   refine AI (hc (n,k) (Ab ..) (Et hk)) fun c e=>?_
   rw[if_pos rfl]
   unfold cellOf
   rw[show env.cells.lookup n=some c from e]
   change (pure _>>=_)=_
   rw[pure_bind _ _]
   dsimp only
   rw[ih _]
   rw[LA]
   rw[hk,if_pos rfl,e]
   rfl
  |false=>
   rw[if_neg AD]
   rw[pure_bind _ _]
   dsimp only
   rw[ih _]
   rw[LA]
   rw[hk,if_neg AD];rfl
theorem Qd {scope:Scope}{env:Env}(hc:∀x∈scope.names,x.2= .free→∃c,env.cells.lookup x.1=some c):closureFor scope env=pure (Lz env scope.names []):=by
 simp only[closureFor]
 rewrite[T1 [] _ (fun n k a=>?_) hc]
 ·rfl
 ·cases k == FZ<;>rfl
theorem Pq {env:Env}{x:Str}:∀{names:SC} {acc:List (Str×Addr)},kd x names=none→(Lz env names acc).lookup x=acc.lookup x
 |[],acc,_=>rfl
 |(n,k)::r,acc,h=>by
  rw[FJ] at h
  by_cases c:n=x
  ·rw[if_pos c] at h;exact HJ h
  ·rw[if_neg c] at h
   rw[LA]
   rw[Pq h]
   split
   ·rw[DA]
    have:(x == n)=false:=by simpa using fun q=>c q.symm
    rw[this];rfl
   ·rfl
theorem Jg {n:Str}{k:NameKind}{r sc:SC}(co:Fz ((n,k)::r) sc=true):kd n r=none∧Fz r sc=true∧k≠ .cell∧(k= .free→kd n sc=some .cell∨kd n sc=some .free):=by
 induction k using Bd with
 |«local»=>have co:=Ae.mp co;exact⟨M9 co.1,co.2,nofun,nofun⟩
 |globalImplicit=>have co:=Ae.mp co;exact⟨M9 co.1,co.2,nofun,nofun⟩
 |free=>
  have co:=Ae.mp co
  have c2:=Ae.mp co.2
  exact⟨M9 co.1,c2.2,nofun,fun uu=>WA c2.1⟩
 |_=>exact FI co
theorem Mm {env:Env}{x:Str}{sc:SC}:∀{names:SC} {acc:List (Str×Addr)},Fz names sc=true→kd x names=some .free→(Lz env names acc).lookup x=some ((env.cells.lookup x).getD 0)
 |[],acc,_,h=>CC h
 |(n,k)::r,acc,co,h=>by
  have co':=Jg co
  rw[FJ] at h
  by_cases c:n=x
  ·rw[if_pos c] at h
   replace h:=Ai h;subst h
   subst c
   rw[LA]
   rw[Pq co'.1];rewrite[if_pos (by rfl)];rw[DA]
   simp
  ·rw[if_neg c] at h
   rw[LA]
   exact Mm co'.2.1 h
theorem Hv {x:Str}{k:NameKind}:∀{sc:SC},kd x sc=some k→(x,k)∈sc
 |[],h=>CC h
 |(n,k')::r,h=>by
  rw[FJ] at h
  by_cases c:n=x
  ·rw[if_pos c] at h;replace h:=Ai h;subst h;subst c;exact Ab ..
  ·rw[if_neg c] at h;exact Af _ (Hv h)
theorem EK {sc:SC}:∀{names:SC},Fz names sc=true→∀x∈names,kd x.1 names=some x.2∧x.2≠ .cell∧(x.2= .free→kd x.1 sc=some .cell∨kd x.1 sc=some .free)
 |[],_,x,hx=>by simp at hx
 |(n,k)::r,co,x,hx=>by
  have co':=Jg co
  refine Ap (Aq.mp hx) (fun z0=>?_) fun hx=>?_;subst z0
  ·refine⟨by rw[FJ,if_pos rfl];rfl,?_,?_⟩
   ·exact co'.2.2.1
   ·exact co'.2.2.2
  ·have:=EK co'.2.1 x hx
   refine⟨?_,this.2⟩
   rw[FJ]
   by_cases c:n=x.1
   ·subst c
    rw[co'.1] at this
    exact absurd this.1 (by intro e;cases e)
   ·rw[if_neg c];exact this.1
theorem Eg {x:Str}:∀{sc:SC},sc.lookup x=kd x sc
 |[]=>rfl
 |(n,k)::r=>by
  rw[DA]
  rw[FJ]
  by_cases c:n=x
  ·subst c;simp
  ·rw[if_neg c]
   have:(x == n)=false:=by simpa using fun q=>c q.symm
   rw[this]
   exact Eg
theorem Oa {env:Env}{x:Str}:∀{names:SC},(names.map fun(n,k)=>if(k == FZ&&env.scope.kind == .function&&env.kindOf n == some .cell) then(n,F_) else(n,k)).lookup x=
  (kd x names).map fun k=>if(k == FZ&&env.scope.kind == .function&&env.kindOf x == some .cell) then F_ else k
 |[]=>rfl
 |(n,k)::r=>by
  rw[B9]
  rw[FJ]
  by_cases c:n=x
  ·subst c
   rw[if_pos rfl]
   dsimp only
   split<;>simp_all
  ·rw[if_neg c]
   have:(x == n)=false:=by simpa using fun q=>c q.symm
   dsimp only
   rw[←Oa (names:=r)]
   split<;>(rw[DA,this];rfl)
theorem Vo {x:Str}{m:LM}:∀{names:SC},kd x names=some .local→lk x (Dw names++m)=none
 |[],h=>nomatch h
 |(n,k)::r,h=>by
  rw[FJ] at h
  by_cases c:n=x
  ·rw[if_pos c] at h
   replace h:=Ai h;subst h
   refine(?_:lk x ((n,none)::(Dw r++m))=none)
   rw[F2,if_pos c];rfl
  ·rw[if_neg c] at h
   have ih:=Vo (m:=m) h
   induction k using Bd with
   |«local»=>
    refine(?_:lk x ((n,none)::(Dw r++m))=none)
    rw[F2,if_neg c,ih];rfl
   |_=>exact ih
theorem Ob {x:Str}{m:LM}{sc:SC}:∀{names:SC},Fz names sc=true→kd x names≠some .local→lk x (Dw names++m)=lk x m
 |[],_,h=>rfl
 |(n,k)::r,co,h=>by
  have co':=Jg co
  rw[FJ] at h
  by_cases c:n=x
  ·rw[if_pos c] at h
   have ih:=Ob (m:=m) (x:=x) co'.2.1 (by rw[←c,co'.1];nofun)
   induction k using Bd with
   |«local»=>exact absurd rfl h
   |_=>exact ih
  ·rw[if_neg c] at h
   have ih:=Ob (m:=m) co'.2.1 h
   induction k using Bd with
   |«local»=>
    refine(?_:lk x ((n,none)::(Dw r++m))=_)
    rw[F2,if_neg c,ih];rfl
   |_=>exact ih
end
section
open Classical
section
variable {X:Ctx}{h:Heap}{env:Env}{wr:Bool}{pv:List (Addr×Obj)}{m:LM}{H:AH}{s:Ad}{d:Nat}{sc:SC}
theorem Ps (xs:List Ac)(n:Nat):DQ (Go xs n):=by
 refine⟨fun ys e=>?_,fun C d e=>?_,fun vs e=>?_⟩<;>· have:=congrArg Obj.cls e;simp[seqObj,instObj] at this
def Il (scope:Scope)(env:Env)(C:Addr):Env:=
 {scope:=relabel scope env,locals:=C,globals:=env.globals,cells:=Lz env scope.names [],qual:=env.qual,func:=none,code:=env.code,frame:=env.frame,builtins:=env.builtins}
theorem F9 {scope:Scope}{C:Addr}{x:Str}:(Il scope env C).kindOf x=
  (kd x scope.names).map fun k=>if(k == FZ&&env.scope.kind == .function&&env.kindOf x == some .cell) then F_ else k:=by
 refine(?_:Hx x (relabel scope env).names=_)
 exact Oa
theorem RS {scope:Scope}{C:Addr}(so:ScOk sc env wr)(co:Fz scope.names sc=true):ScOk scope.names (Il scope env C) false where
 loc:=fun x e=>by rw[F9,e];rfl
 cell:=fun x e=>absurd rfl ((EK co _ (Hv e)).2.1)
 free:=fun x e=>by
  rw[F9,e]
  change some (if _ then _ else _)=_∨some (if _ then _ else _)=_
  split
  ·exact .inl rfl
  ·exact .inr rfl
 glob:=fun x e=>by rw[F9,e];rfl
 clk:=fun x e=>by
  revert e;refine fun zo=>Ap zo (fun e=>?_) (fun e=>?_)<;>clear zo
  ·exact absurd rfl ((EK co _ (Hv e)).2.1)
  ·exact⟨_,Mm co e⟩
theorem Qe {scope:Scope}{C:Addr}{x:Str}(so:ScOk sc env wr)(co:Fz scope.names sc=true)(e:(Il scope env C).kindOf x=some .cell∨(Il scope env C).kindOf x=some .free):
  kd x scope.names=some .free∧(env.kindOf x=some .cell∨env.kindOf x=some .free):=by
 rw[F9] at e
 cases k:kd x scope.names with
 |none=>rw[k] at e;revert e;refine fun zo=>Ap zo (fun e=>?_) (fun e=>?_)<;>clear zo<;>exact CC e
 |some kk=>
  have hm:=EK co _ (Hv k)
  have hf:kk= .free:=by
   rw[k] at e
   induction kk using Bd with
   |free=>rfl
   |cell=>exact absurd rfl hm.2.1
   |«local»=>revert e;refine fun zo=>Ap zo (fun e=>?_) (fun e=>?_)<;>clear zo<;>cases e
   |globalExplicit=>revert e;refine fun zo=>Ap zo (fun e=>?_) (fun e=>?_)<;>clear zo<;>cases e
   |globalImplicit=>revert e;refine fun zo=>Ap zo (fun e=>?_) (fun e=>?_)<;>clear zo<;>cases e
  subst hf
  refine⟨rfl,?_⟩
  refine Ap (hm.2.2 rfl) (fun q=>?_) fun q=>?_
  ·exact .inl (so.cell x q).2
  ·exact so.free x q
theorem St.comp (S:St X h env wr pv m H s){scope:Scope}{C:Addr}{pv':List (Addr×Obj)}(so:ScOk sc env wr)(co:Fz scope.names sc=true)(hk:scope.kind= .function)
  {s':Ad}(O':Own X h H s')(hC:h.get? C=none)(HC:H C=none)(nC:∃mC,s'.heap.Ns C mC)(kp:∀b o,s.heap.get? b=some o→s'.heap.get? b=some o)
  (hpv:∀q∈pv',s'.heap.get? q.1=some q.2∧h.get? q.1=none∧H q.1=none∧q.1≠C∧DQ q.2):St X h (Il scope env C) false pv' (Dw scope.names++m) H s':=by
 revert nC;refine fun zq=>AI zq fun mC nC=>?_;clear zq
 refine⟨O',hk,S.glo,S.bi,⟨mC,nC,fun x v e kx=>?_⟩,⟨hC,HC⟩,fun x v e kx=>?_,(fun w=>nomatch w),hpv⟩
 ·exfalso
  rw[F9] at kx
  cases k:kd x scope.names with
  |none=>rw[k] at kx;exact CC kx
  |some kk=>
   have:kk= .local:=by
    rw[k] at kx
    induction kk using Bd with
    |«local»=>rfl
    |free=>
     have kx':some (if _ then F_ else FZ)=some NameKind.local:=kx
     split at kx'<;>cases kx'
    |_=>cases kx
   subst this
   rw[Vo k] at e
   exact CC e
 ·refine Aw (Qe so co kx) fun k1 k2=>?_
  rw[Ob co (by rw[k1];simp)] at e
  refine Cv (S.cl x v e k2) fun c w l ic r=>?_
  exact FQ c w ((Mm co k1).trans (by rw[l];rfl)) (ic.keeps kp) r
theorem RT {elt t i:Expr}{ifs:List Expr}{scope:Scope}{pos:Pos}{cenv:Env}{asg:PV→LM→AH→(LM→AH→Prop)→Prop}{tst:LM→AH→(Bool→AH→Prop)→Prop}{elm:LM→AH→(PV→AH→Prop)→Prop}
  (asgT:∀p m H K,asg p m H K→TV X d cenv false m H p (assign t cenv) K)
  (tstT:∀m H K,tst m H K→TB X d cenv false m H (forIn ifs true fun c r=>if r=true then do let ok←isTrue c cenv (eval c cenv);pure (DP ok) else pure (DP r)) K)
  (elmT:∀m H K,elm m H K→TE X d cenv false m H (eval elt cenv) K)
  {ok:AH→Prop}{items:List PV}{src:Src}{I D:Addr}{K:List PV→LM→AH→Prop}{A:B2}{R:Result→Ad→Prop}(hok:Lh X d A){h0:Heap}(x:X.In h0)(f:NE h0 ok items src)
  {gl:List (Addr×Obj)}(hqI:∀q∈gl,q.1≠I)(hqD:∀q∈gl,q.1≠D)(hID:I≠D)
  (hR:∀s' h' m' H' acc xs n,BH h0 h'→St X h' cenv false ((D,Go xs n)::gl) m' H' s'→AG h' acc xs→K acc m' H'→R (.ok .next) s')
  {o:Obj}{m:LM}{H:AH}{s:Ad}(S:St X h0 cenv false ((I,o)::(D,Go [] 0)::gl) m H s)(tn:FU o 0 src)
  (v:Fu ok asg (fun acc m H K=>tst m H fun c H=>if c then elm m H fun p H=>acc.length≤100000∧K (acc++[p]) m H else K acc m H) items [] m H K):
  codeAny (model X.prog X.w) A (.compLoop (.ListComp elt [⟨t,i,ifs,0⟩] scope pos) 0 (.ref I) (.ref D) cenv) R s:=by
 refine codeAny_loop rfl (fun nn s'=>∃j o acc xs n m' H' h',nn=items.length-j∧j≤items.length∧BH h0 h'∧St X h' cenv false ((I,o)::(D,Go xs n)::gl) m' H' s'∧FU o j src∧AG h' acc xs∧
  Fu ok asg (fun acc m H K=>tst m H fun c H=>if c then elm m H fun p H=>acc.length≤100000∧K (acc++[p]) m H else K acc m H) (items.drop j) acc m' H' K) (fun nn s hI=>?_) items.length
  ⟨0,o,[],[],0,m,H,h0,rfl,AM _,Bp _,S,tn,by exact AG.n,v⟩
 refine AI hI fun j zr=>?_;clear hI;refine AI zr fun o zr=>?_;refine AI zr fun acc zr=>?_;refine AI zr fun xs zr=>?_;refine AI zr fun n zr=>?_;refine AI zr fun m' zr=>?_;refine L9 zr fun H' h' z2 hj kp S tn ra v=>?_;clear zr;subst z2
 refine(?_:wpAny _ _ ((compTurn (.ListComp elt [⟨t,i,ifs,0⟩] scope pos) 0 (.ref I) (.ref D) cenv).onRaise (fun x=>do noteFrame x cenv;theTreesLotGoes x)) _ _ s)
 refine wpAny_noted ?_
 rewrite[compTurn_list]
 have x':=x.keeps kp
 refine Eb (S.pvO (I,o) (Ab ..)) fun gI hn Hn ne uu=>?_
 have hok':ok H':=by
  cases e:items.drop j with
  |nil=>rw[e] at v;exact v.1
  |cons a b=>rw[e] at v;exact v.1
 have hqI':∀q∈(D,Go xs n)::gl,q.1≠I:=fun q hq=>by
  refine Ap (Aq.mp hq) (fun z0=>?_) fun hq=>?_;subst z0
  ·exact Ck hID
  ·exact hqI q hq
 refine A7 (B8 (A7 ?_))
 refine Mf x' S.own (f.keeps kp) hok' gI tn hn Hn hok.2.2 hj (fun p u h'' o' tk le e r g' t' sb=>?_) fun ge h'' eb=>?_
 ·have lt:j<items.length:=by
   refine Ap (Cy j items.length) (fun lt=>?_) fun ge=>?_
   ·exact lt
   ·rw[Bg ge] at e;exact CC e
  have e0:items[j]=p:=by rw[Ah lt] at e;exact Ai e
  have S1:=S.swapP x' (h':=h'') (tk:=tk) hqI' tn.noCell (fun b ob nb q=>(sb.2 b nb).trans q) g' t'.plain.1
  rw[CB lt,e0] at v
  replace v:=v.2
  refine A7 (O8 g' t' ?_)
  refine A7 (asgT _ _ _ _ v h' _ _ A _ _ u x' S1 hok r fun s2 h2 m2 H2 k2 S2 q2=>?_)
  refine A7 (tstT _ _ _ q2 h2 _ s2 A _ _ (x'.keeps k2) S2 hok fun c s3 h3 H3 k3 S3 q3=>?_)
  induction c using AX with
  |false=>
   rw[if_neg (by decide)] at q3
   exact A9 ⟨rfl,items.length-(j+1),by exact(Al [_,_] 0x10644150650041502) lt,j+1,o',acc,xs,n,m2,H3,h3,rfl,lt,kp.trans (k2.trans k3),S3,t',AG.keeps (k2.trans k3) _ ra,q3⟩
  |true=>
   rw[if_pos rfl] at q3
   refine A7 (A7 (elmT _ _ _ q3 h3 _ s3 A _ _ ((x'.keeps k2).keeps k3) S3 hok fun w s4 h4 p4 H4 k4 S4 r4 q4=>?_))
   refine Eb (S4.pvO (D,Go xs n) (Af _ (Ab ..))) fun gD hnD HnD neD plD=>?_
   have k04:=k2.trans (k3.trans k4)
   have z:=ra.len
   refine A7 (O9 gD (by have:=q4.1;exact(Al [_,_] 0x186a05800186a0581020112) z this) fun h5 n5 g5 sb5=>A9 (A9 ⟨rfl,items.length-(j+1),by exact(Al [_,_] 0x10644150650041502) lt,j+1,o',acc++[p4],xs++[w],n5,m2,H4,h4,rfl,lt,kp.trans k04,?_,t',
    (AG.keeps k04 _ ra).append (by refine AG.d ?_;exact⟨r4,trivial⟩),q4.2⟩))
   refine Eb (S4.pvO (I,o') (Ab ..)) fun gI4 hnI HnI neI plI=>?_
   have S5:=(S4.dropP).swapP (((x'.keeps k2).keeps k3).keeps k4) (h':=h5) (tk:=s4.toks) hqD (fun v e=>by cases e) (fun b ob nb q=>(sb5.2 b nb).trans q) g5 (Ps _ _)
   exact⟨S5.own,S5.kind,S5.glo,S5.bi,S5.ns,S5.nsO,S5.cl,(fun w=>nomatch w),fun q hq=>by
    refine Ap (Aq.mp hq) (fun z0=>?_) fun hq=>?_;subst z0
    ·exact⟨(sb5.2 I hID).trans gI4,hnI,HnI,neI,plI⟩
    ·exact S5.pvO q hq⟩
 ·have S1:=S.offP x' (h':=h'') (tk:=s.toks) hqI' tn.noCell eb
  rw[IB ge] at v
  exact A9 (hR _ h' m' H' acc xs n kp S1 ra v.2)
theorem RU {elt t i:Expr}{ifs:List Expr}{scope:Scope}{pos:Pos}{asg:PV→LM→AH→(LM→AH→Prop)→Prop}{tst:LM→AH→(Bool→AH→Prop)→Prop}{elm:LM→AH→(PV→AH→Prop)→Prop}{Q:PV→AH→Prop}
  (hs:Jb i=false)(hk:scope.kind= .function)(co:Fz scope.names sc=true)(so:ScOk sc env wr)
  (asgT:∀cenv,ScOk scope.names cenv false→∀p m H K,asg p m H K→TV X d cenv false m H p (assign t cenv) K)
  (tstT:∀cenv,ScOk scope.names cenv false→∀m H K,tst m H K→TB X d cenv false m H (forIn ifs true fun c r=>if r=true then do let ok←isTrue c cenv (eval c cenv);pure (DP ok) else pure (DP r)) K)
  (elmT:∀cenv,ScOk scope.names cenv false→∀m H K,elm m H K→TE X d cenv false m H (eval elt cenv) K)
  (ti:TE X d env wr m H (eval i env) (fun src H1=>IF H1 (fun ok items=>Fu ok asg (fun acc m H K=>tst m H fun c H=>if c then elm m H fun p H=>acc.length≤100000∧K (acc++[p]) m H else K acc m H) items [] (Dw scope.names++m) H1
   fun out uu H=>∀c,H c=none→Q (.loc c) (H.set c (.list out))) src)):
  TE X d env wr m H (eval (.ListComp elt [⟨t,i,ifs,0⟩] scope pos) env) Q:=by
 intro h pv s A E post xi S ok k
 have hclos:closureFor scope env=pure (Lz env scope.names []):=Qd fun x hx hf=>by
  rcases x with⟨xn,xk⟩
  subst hf
  exact so.clk _ ((EK co _ hx).2.2 rfl)
 rw[eval_ListComp _ _ _ _]
 refine wpAny_comprehension_free (use:=none) rfl (fun uu=>Ly hs) hclos hk (fun x hx hl=>by rw[Eg,(EK co _ hx).1,hl];rfl) ?_
 refine ti h pv s A _ _ xi S ok fun v s1 h1 src H1 k1 S1 r1 q1=>?_
 have x1:=xi.keeps k1
 refine PX x1 S1.own r1 q1 fun I o okk items sc' hK hokk f tn hI uu=>?_
 subst hI
 refine Bb (wpAny_newFunctionEnv (fun x hx=>(EK co _ hx).2.1) (fun uu hx=>nomatch hx) (fun h₁ hns hsb=>?_) hk) (by size_fits)
 dsimp only at hns hsb ⊢
 rcases S1.guards with⟨gl,hgl,back⟩
 generalize hH2:(s1.heap.push o).push {cls:=E_ "list",dict:=none,data:=Data.seq ([]:List Ac).toArray}=g2 at hns hsb ⊢
 have hI1:(s1.heap.push o).objs.size=s1.heap.objs.size+1:=B3 ..
 have hI2:g2.objs.size=s1.heap.objs.size+2:=by rw[←hH2,B3 _ _,hI1];rfl
 have lt2:∀b:Nat,b<s1.heap.objs.size→b<g2.objs.size:=fun b hb=>by rw[hI2];exact BW (BW hb)
 have neI:s1.heap.objs.size≠g2.objs.size:=by rw[hI2];exact BL (BW (Bx _))
 have neD2:s1.heap.objs.size+1≠g2.objs.size:=by rw[hI2];exact BL (Bx _)
 have leC:s1.heap.objs.size≤g2.objs.size:=by rw[hI2];exact CR (BM _)
 have none_of:∀a,s1.heap.objs.size≤a→h1.get? a=none∧H1 a=none:=fun a ha=>⟨by
   cases z:h1.get? a with
   |none=>rfl
   |some y=>exact absurd (Ax (S1.own.keep _ _ z)) (Dv.mpr ha),by
   cases z:H1 a with
   |none=>rfl
   |some y=>refine Aw (S1.own.cell _ _ z) fun uu zr=>?_;refine AB zr fun o' g' uu=>?_;clear zr;exact absurd (Ax g') (Dv.mpr ha)⟩
 have kp:∀b ob,s1.heap.get? b=some ob→h₁.get? b=some ob:=fun b ob e=>by
  have:=Ax e
  exact hsb.extBut b ob (BL (lt2 _ this)) (Aj _ (hH2▸Aj _ (Aj _ e)))
 have gI:h₁.get? s1.heap.objs.size=some o:=hsb.extBut _ _ neI (Aj _ (hH2▸Aj _ (Ar _ tn.plain.2)))
 have gD:h₁.get? (s1.heap.objs.size+1)=some (Go [] 0):=hsb.extBut _ _ neD2 (Aj _ (hH2▸by rw[←hI1];exact Ar _ rfl))
 have O2:Own X h1 H1 {s1 with heap:=h₁,toks:=s1.toks+([]:List (Str×Ac)).length}:=(S1.own.grown x1 (s':={s1 with heap:=h₁}) kp rfl rfl).tok
 have S2:St X h1 (Il scope env g2.objs.size) false ((s1.heap.objs.size,o)::(s1.heap.objs.size+1,Go [] 0)::gl) (Dw scope.names++m) H1 {s1 with heap:=h₁,toks:=s1.toks+([]:List (Str×Ac)).length}:=by
  refine S1.comp so co hk O2 (none_of _ leC).1 (none_of _ leC).2 ⟨_,hns⟩ kp fun q hq=>?_
  refine Ap (Aq.mp hq) (fun z0=>?_) fun hq=>?_;subst z0
  ·exact⟨gI,(none_of _ (Ak _)).1,(none_of _ (Ak _)).2,neI,tn.plain.1⟩
  refine Ap (Aq.mp hq) (fun z0=>?_) fun hq=>?_;subst z0
  ·exact⟨gD,(none_of _ (BM _)).1,(none_of _ (BM _)).2,neD2,(Ps _ _)⟩
  ·refine M6 (hgl q hq) fun a b c e=>?_
   have:=Ax a
   exact⟨kp _ _ a,b,c,BL (lt2 _ this),e⟩
 rw[show(s1.heap.push o).objs.size=s1.heap.objs.size+1 from hI1]
 have so':=RS (C:=g2.objs.size) so co
 have loop:codeAny (model X.prog X.w) A (.compLoop (.ListComp elt [⟨t,i,ifs,0⟩] scope pos) 0 (.ref s1.heap.objs.size) (.ref (s1.heap.objs.size+1)) (Il scope env g2.objs.size))
   (compPost (model X.prog X.w) A E none post (.ref (s1.heap.objs.size+1)) g2.objs.size) {s1 with heap:=h₁,toks:=s1.toks+([]:List (Str×Ac)).length}:=by
  refine RT (asgT _ so') (tstT _ so') (elmT _ so') ok x1 f (gl:=gl) (fun q hq=>BL (Ax (hgl q hq).1)) (fun q hq=>BL (BW (Ax (hgl q hq).1))) (BL (Bx _))
   (fun s' h' m' H' acc xs n kp' S' ra q'=>?_) S2 tn hK
  rcases S'.ns with⟨mC,nC,_⟩
  refine⟨mC,nC,fun h'' sb=>?_⟩
  have gDD:=S'.pvO (s1.heap.objs.size+1,Go xs n) (Ab ..)
  have hCC:g2.objs.size≠s1.heap.objs.size+1:=Ck neD2
  have O5:Own X h' H' {s' with heap:=h''}:=S'.own.other S'.nsO.2 S'.nsO.1 sb
  have gD5:h''.get? (s1.heap.objs.size+1)=some (Go xs n):=(sb.2 _ (Ck hCC)).trans gDD.1
  have S5:=back h' H' {s' with heap:=h''} kp' O5 fun q hq=>by
   refine Eb (S'.pvO q (Af _ hq)) fun a b c e uu=>?_
   exact⟨(sb.2 _ e).trans a,b,c⟩
  have O6:=O5.watch (po:= .list acc) gDD.2.1 gD5 ⟨xs,n,rfl,ra⟩ (CR S1.own.lo)
  have neD:∀q∈gl,q.1≠s1.heap.objs.size+1:=fun q hq=>BL (BW (Ax (hgl q hq).1))
  have S6:=back h' (H'.set (s1.heap.objs.size+1) (.list acc)) {s' with heap:=h''} kp' O6 fun q hq=>by
   refine Eb (S'.pvO q (Af _ hq)) fun a b c e uu=>?_
   exact⟨(sb.2 _ e).trans a,b,by rw[AH.set_ne (neD q hq)];exact c⟩
  exact k _ _ h' (.loc (s1.heap.objs.size+1)) _ (k1.trans kp') S6 (by refine AP.l' ?_;rfl) (q' _ gDD.2.2.1)
 exact codeAny_compStart_list loop (RR gI tn loop)
end
end
section
open Classical
section
variable {X:Ctx}{env:Env}{wr:Bool}{m:LM}{H:AH}{d:Nat}{sc:SC}{Q:PV→AH→Prop}
theorem az {l r:Expr}{op:Operator}{pos:Pos}{R:PV→AH→Prop}(t1:TE X d env wr m H (eval l env) R)(t2:∀a H1,R a H1→TE X d env wr m H1 (eval r env) fun b H2=>UI op a b H2 Q):
  TE X d env wr m H (eval (.BinOp l op r pos) env) Q:=by
 intro h pv s A E post xi S ok k
 refine wpAny_BinOp (t1 h pv s A E _ xi S ok fun va s1 h1 a H1 k1 S1 r1 q1=>?_)
 refine t2 a H1 q1 h1 pv s1 A E _ (xi.keeps k1) S1 ok fun vb s2 h2 b H2 k2 S2 r2 q2=>?_
 exact S2.op (f:=fun vs=>binaryOp op (vs.getD 0 .none) (vs.getD 1 .none)) (vs:=[va,vb]) ((xi.keeps k1).keeps k2) (ZW q2) (by refine AG.d ?_;exact⟨AP.keeps k2 _ r1,r2,trivial⟩) ok
  fun v s3 h3 p H3 k3 S3 r3 q3=>k v s3 h3 p H3 (k1.trans (k2.trans k3)) S3 r3 q3
theorem cD {e:Expr}{op:UnaryOp}{pos:Pos}(t1:TE X d env wr m H (eval e env) fun a H1=>b6 op a H1 Q):TE X d env wr m H (eval (.UnaryOp op e pos) env) Q:=by
 intro h pv s A E post xi S ok k
 refine wpAny_UnaryOp (t1 h pv s A E _ xi S ok fun va s1 h1 a H1 k1 S1 r1 q1=>?_)
 exact S1.op (f:=fun vs=>unaryOp op (vs.getD 0 .none)) (vs:=[va]) (xi.keeps k1) (cm q1) (by refine AG.d ?_;exact⟨r1,trivial⟩) ok
  fun v s3 h3 p H3 k3 S3 r3 q3=>k v s3 h3 p H3 (k1.trans k3) S3 r3 q3
theorem WY {t b o:Expr}{pos:Pos}{R:Bool→AH→Prop}(t1:TB X d env wr m H (isTrue t env (eval t env)) R)(t2:∀H1,R true H1→TE X d env wr m H1 (eval b env) Q)(t3:∀H1,R false H1→TE X d env wr m H1 (eval o env) Q):
  TE X d env wr m H (eval (.IfExp t b o pos) env) Q:=by
 intro h pv s A E post xi S ok k
 refine wpAny_IfExp (t1 h pv s A E _ xi S ok fun c s1 h1 H1 k1 S1 q1=>?_)
 induction c using AX with
 |true=>exact t2 H1 q1 h1 pv s1 A E _ (xi.keeps k1) S1 ok fun v s3 h3 p H3 k3 S3 r3 q3=>k v s3 h3 p H3 (k1.trans k3) S3 r3 q3
 |false=>exact t3 H1 q1 h1 pv s1 A E _ (xi.keeps k1) S1 ok fun v s3 h3 p H3 k3 S3 r3 q3=>k v s3 h3 p H3 (k1.trans k3) S3 r3 q3
theorem Yr {o:Expr}{name:Str}{pos:Pos}(hp:GA o=true)(t1:TE X d env wr m H (eval o env) fun p H1=>SK X name H1 (kP Q H1) p):TE X d env wr m H (eval (.Attribute o name pos) env) Q:=by
 intro h pv s A E post xi S ok k
 rw[arm_eval_Attribute _ _ _ _,Kw hp]
 refine A7 (t1 h pv s A E _ xi S ok fun va s1 h1 a H1 k1 S1 r1 q1=>?_)
 refine A7 (B8 (A7 (Ay ?_)))
 refine TU (xi.keeps k1) S1.own r1 q1 fun q u tk ru kq=>?_
 exact A7 (wpAny_letTemporaryGo (A9 (k _ _ _ _ _ k1 S1.tok ru kq)))
def R1:Expr→Bool
 | .Slice .. =>true
 |_=>false
theorem LB {i:Expr}{o v:Ac}(h:R1 i=false):subscripted i false o v=operate [o,v] (getItem o v):=by
 induction i using AA<;>first|rfl|exact aZ h
theorem RV {h:Heap}{s:Ad}{a b:PV}{va:Ac}{K:PV→Prop}(O:Own X h H s)(r:AP h a va)(q:P8 b H K a):∃T id,s.TypeIs va T∧typeLookup (.type T) "__getitem__"=pure (some (.builtin id)):=by
 induction a using Mine.Internal.PV.casesOn with
 |tup vs=>
  refine Md r fun ta xs g rr=>?_
  exact Gn ("tuple") _ ⟨_,O.keep _ _ g,rfl⟩ Jn.lookup
 |str x=>
  refine Mc r fun t=>?_
  exact Gn ("str") _ (typeIs_str _ _ _) F.slot_str_getitem.lookup
 |loc l=>
  cases C6 r
  focus(refine Ap (Hf q) (fun z0=>?_) fun z0=>?_;rotate_left;refine BT z0 fun es n eu uu=>?_;clear z0;rotate_right;refine AB z0 fun vs eu uu=>?_;clear z0)
  ·refine BT (O.isList eu) fun xs n g rr=>?_
   exact Gn ("list") _ ⟨_,g,rfl⟩ Gi.lookup
  ·refine AB (O.isDict eu) fun xs g rr=>?_
   exact Gn ("dict") _ ⟨_,g,rfl⟩ F.slot_dict_getitem.lookup
 |_=>exact q.elim
theorem Ys {o i:Expr}{pos:Pos}{R:PV→AH→Prop}(hs:∀a H1,R a H1→R1 i=false)(t1:TE X d env wr m H (eval o env) R)(t2:∀a H1,R a H1→TE X d env wr m H1 (eval i env) fun b H2=>P8 b H2 (kP Q H2) a):
  TE X d env wr m H (eval (.Subscript o i pos) env) Q:=by
 intro h pv s A E post xi S ok k
 refine Subscript_ (t1 h pv s A E _ xi S ok fun va s1 h1 a H1 k1 S1 r1 q1=>?_)
 refine t2 a H1 q1 h1 pv s1 A E _ (xi.keeps k1) S1 ok fun vb s2 h2 b H2 k2 S2 r2 q2=>?_
 have hu:=ok.lt
 have ra:=AP.keeps k2 _ r1
 refine BT (RV S2.own ra q2) fun T id hT hl=>?_
 refine tail_any hT hl ?_ (LB (hs _ _ q1))
 exact Yb ((xi.keeps k1).keeps k2) S2.own ra r2 q2 (by exact(Al [_,_] 0x14d2280550141f43805502) hu) fun p v tk rp kp=>k _ _ _ _ _ (k1.trans k2) S2.tok rp kp
theorem R2 {h:Heap}{s:Ad}{a:PV}{va:Ac}{sl:Sl}(x:X.In h)(O:Own X h H s)(r:AP h a va)(q:Ko X sl H Q a):∃T id,s.TypeIs va T∧typeLookup (.type T) "__getitem__"=pure (some (.builtin id)):=by
 induction a using Mine.Internal.PV.casesOn with
 |tup vs=>
  refine Md r fun ta xs g rr=>?_
  exact Gn ("tuple") _ ⟨_,O.keep _ _ g,rfl⟩ Jn.lookup
 |loc l=>
  cases C6 r
  replace q:Hg sl H Q (N2 (H l)):=q
  cases e2:N2 (H l) with
  |none=>rw[e2] at q;exact q.elim
  |some vs=>
   refine BT (O.isList (Lj e2)) fun xs n g rr=>?_
   exact Gn ("list") _ ⟨_,g,rfl⟩ Gi.lookup
 |raw w=>
  replace q:=PL q
  revert q;refine fun zq=>AB zq fun l z1 q=>?_;clear zq;subst z1
  cases Ik r
  replace q:Hg sl H Q (IE l X.lst):=q
  cases e2:IE l X.lst with
  |none=>rw[e2] at q;exact q.elim
  |some vs=>
   refine BT (O.isSeqL x e2) fun xs n g rr=>?_
   exact Gn ("list") _ ⟨_,g,rfl⟩ Gi.lookup
 |_=>exact q.elim
theorem Mn {o i:Expr}{h:Heap}{pv:List (Addr×Obj)}{s:Ad}{A:B2}{E:Ac→Ad→Prop}{post:Ac→Ad→Prop}{a:PV}{va l u st:Ac}{sl:Sl}{ops:List Ac}(xi:X.In h)(S:St X h env wr pv m H s)(ok:Lh X d A)
  (r:AP h a va)(q:Ko X sl H Q a)(hsl:Yp sl l u st)(hs:∀v,subscripted i false va v=operate (ops++[v]) (getItem va v)∨subscripted i false va v=operate (v::ops) (getItem va v))
  (k:∀v s' h₁ p H',BH h h₁→St X h₁ env wr pv m H' s'→AP h₁ p v→Q p H'→post v s'):
  wpAny (model X.prog X.w) A (subscriptTail o i va (.ref s.heap.objs.size)) post E {s with heap:=s.heap.push {cls:= .type "slice",data:= .fields #[l,u,st]}}:=by
 have O1:=S.own.push {cls:= .type "slice",data:= .fields #[l,u,st]}
 have S1:=(S.pushP (o:={cls:= .type "slice",data:= .fields #[l,u,st]}) (by
  refine⟨fun ys e=>?_,fun C d e=>?_,fun vs e=>?_⟩<;>· have:=congrArg Obj.cls e;simp[instObj] at this) rfl).dropP
 refine BT (R2 xi O1 r q) fun T id hT hl=>?_
 have go:wpAny (model X.prog X.w) A (getItem va (.ref s.heap.objs.size)) (fun v s'=>post v s') E {s with heap:=s.heap.push {cls:= .type "slice",data:= .fields #[l,u,st]}}:=by
  have kf:=S1.own.keepsFrz
  refine WW (sl:=sl) (xi.keeps kf) S1.own.freeze (Q:=Q) (fun v s' h₁ p H' k' O' r' q'=>?_) (AP.keeps kf _ r) (Sz ..) hsl q
  refine CP (S1.after k' O') fun h₂ k2 S2 rr=>?_
  exact k v s' h₂ p H' k2 S2 (rr _ _ r') q'
 refine Ap (hs (.ref s.heap.objs.size)) (fun e=>?_) fun e=>?_
 ·exact tail_any hT hl go e
 ·exact tail_any hT hl go e
theorem T2 {f:Nat→Sl}{o:Option Int}{sl:Sl}(h:cj f o=some sl):∃n,o=some (.ofNat n)∧sl=f n:=by
 match o,h with
 |some (.ofNat n),h=>exact⟨n,rfl,(Ai h).symm⟩
 |some (.negSucc n),h=>exact CC h
 |none,h=>exact CC h
theorem R3 {i:Expr}{sl:Sl}(h:ED i=some sl):(∃n a b p,i= .Slice (some (.Constant (.int (.ofNat n)) a b)) none none p∧sl= .from n)∨(∃n a b p,i= .Slice none (some (.Constant (.int (.ofNat n)) a b)) none p∧sl= .upto n)∨
  ∃a b c p,i= .Slice none none (some (.UnaryOp .USub (.Constant (.int 1) a b) c)) p∧sl= .rev:=by
 induction i using AA with
 |Slice a b c p=>
  rcases a with _|a<;>rcases b with _|b<;>rcases c with _|c
  ·exact CC h
  ·replace h:d7 (bh c)=some sl:=h
   cases e:bh c with
   |none=>rw[e] at h;exact CC h
   |some k=>
    refine XX (WB e) fun x y z z3=>?_;subst z3
    rw[e] at h
    replace h:(bif k == 1 then some Sl.rev else none)=some sl:=h
    cases q:k == 1 with
    |true=>rw[q] at h;replace h:=Ai h;subst h;rw[Et q];exact .inr (.inr ⟨_,_,_,_,rfl,rfl⟩)
    |false=>rw[q] at h;exact CC h
  ·refine AB (T2 h) fun n e z2=>?_;subst z2
   refine IV (PN e) fun x y z2=>?_;subst z2
   exact .inr (.inl ⟨_,_,_,_,rfl,rfl⟩)
  ·exact CC h
  ·refine AB (T2 h) fun n e z2=>?_;subst z2
   refine IV (PN e) fun x y z2=>?_;subst z2
   exact .inl ⟨_,_,_,_,rfl,rfl⟩
  ·exact CC h
  ·exact CC h
  ·exact CC h
 |_=>exact CC h
theorem WZ {o i:Expr}{pos:Pos}{sl:Sl}(hs:ED i=some sl)(t1:TE X d env wr m H (eval o env) fun a H1=>Ko X sl H1 Q a):TE X d env wr m H (eval (.Subscript o i pos) env) Q:=by
 intro h pv s A E post xi S ok k
 refine Subscript_ (t1 h pv s A E _ xi S ok fun va s1 h1 a H1 k1 S1 r1 q1=>?_)
 have k':∀v s' h₁ p H',BH h1 h₁→St X h₁ env wr pv m H' s'→AP h₁ p v→Q p H'→post v s':=fun v s' h₁ p H' kk S' r' q'=>k v s' h₁ p H' (k1.trans kk) S' r' q'
 rcases R3 hs with⟨n,b,c,p,rfl,rfl⟩|⟨n,b,c,p,rfl,rfl⟩|⟨b,c,c2,p,rfl,rfl⟩
 ·refine MX ?_
  rw[Kf _ _,Kg _]
  refine EU (A9 (A9 ?_))
  exact Mn (ops:=[va]) (xi.keeps k1) S1.tok ok r1 q1 (by exact⟨⟨_,rfl⟩,rfl,rfl⟩) (fun v=> .inr rfl) k'
 ·refine MX ?_
  rw[Kf _ _,Kg _]
  refine A9 (EU (A9 ?_))
  exact Mn (ops:=[va]) (xi.keeps k1) S1.tok ok r1 q1 (by exact⟨rfl,⟨_,rfl⟩,rfl⟩) (fun v=> .inr rfl) k'
 ·refine MX ?_
  rw[Kf _ _,Kg _]
  refine A9 (A9 (wpAny_UnaryOp (EU ?_)))
  refine N8 ?_
  exact Mn (ops:=[va]) (xi.keeps k1) S1.tok ok r1 q1 (by exact⟨rfl,rfl,_,rfl⟩) (fun v=> .inl rfl) k'
theorem W_ {ps:List PV}(hz:ps.length≤1000)(q:∀c,H c=none→Q (.loc c) (H.set c (.list ps))):Op X d newList ps H Q:=
 fun h s vs A E post x O r ok P=>Tu P O r q (by have:=r.len;exact(Al [_,_] 0xf4240580001123e838102) hz this)
theorem Vp {ps:List PV}(hz:ps.length≤1000)(q:Q (.tup ps) H):Op X d newTuple ps H Q:=
 fun h s vs A E post x O r ok P=>Rv P O r q (by have:=r.len;exact(Al [_,_] 0xf4240580001123e838102) hz this)
theorem Yt {es:List Expr}{pos:Pos}(hn:es.length≤100)(t1:TL X d env wr m H (spliced (backTo pos (starEach es env))) fun ps H1=>ps.length=es.length∧∀c,H1 c=none→Q (.loc c) (H1.set c (.list ps))):TE X d env wr m H (eval (.List es pos) env) Q:=by
 intro h pv s A E post xi S ok k
 rw[arm_eval_List _ _ _]
 refine A7 (B8 (A7 (t1 h pv s A E _ xi S ok fun vs s1 h1 ps H1 k1 S1 r1 q1=>?_)))
 exact S1.op (xi.keeps k1) (W_ (by x_go) q1.2) r1 ok fun v s3 h3 p H3 k3 S3 r3 q3=>k v s3 h3 p H3 (k1.trans k3) S3 r3 q3
theorem T3 {es:List Expr}{kk:Nat}{pos:Pos}(hn:es.length≤100)(t1:TL X d env wr m H (spliced (backTo pos (starEach es env))) fun ps H1=>ps.length=es.length∧Q (.tup ps) H1):TE X d env wr m H (eval (.Tuple es kk pos) env) Q:=by
 intro h pv s A E post xi S ok k
 rw[arm_eval_Tuple _ _ _ _]
 refine A7 (B8 (A7 (t1 h pv s A E _ xi S ok fun vs s1 h1 ps H1 k1 S1 r1 q1=>?_)))
 exact S1.op (xi.keeps k1) (Vp (by x_go) q1.2) r1 ok fun v s3 h3 p H3 k3 S3 r3 q3=>k v s3 h3 p H3 (k1.trans k3) S3 r3 q3
theorem X2 {pos:Pos}(q:∀c,H c=none→Q (.loc c) (H.set c (.dict [] 0))):TE X d env wr m H (eval (.Dict [] [] pos) env) Q:=by
 intro h pv s A E post xi S ok k
 rw[arm_eval_Dict _ _ _ _]
 refine A7 (B8 ?_)
 refine(?_:wpAny _ _ (newDict) _ _ _)
 refine S.op (X:=X) (d:=d) (f:=fun uu=>newDict) (ps:=[]) (vs:=[]) (Q:=Q) xi ?_ (by exact AG.n) ok k
 intro h s vs A E post x O r ok P
 refine Bb ?_ (by size_fits)
 exact P.here (O.pushT (o:=JQ [] 0) (po:= .dict [] 0) ⟨[],rfl,trivial⟩) (by refine AP.l' ?_;rfl) (q _ O.fresh)
theorem TE.mono {t:Sem Ac}{Q':PV→AH→Prop}(t1:TE X d env wr m H t Q)(q:∀p H',Q p H'→Q' p H'):TE X d env wr m H t Q':=
 fun h pv s A E post xi S ok k=>t1 h pv s A E post xi S ok fun v s' h₁ p H' k1 S1 r1 q1=>k v s' h₁ p H' k1 S1 r1 (q p H' q1)
theorem TL.mono {t:Sem (List Ac)}{K K':List PV→AH→Prop}(t1:TL X d env wr m H t K)(q:∀p H',K p H'→K' p H'):TL X d env wr m H t K':=
 fun h pv s A E post xi S ok k=>t1 h pv s A E post xi S ok fun v s' h₁ p H' k1 S1 r1 q1=>k v s' h₁ p H' k1 S1 r1 (q p H' q1)
theorem Yu {pos:Pos}{K:List PV→AH→Prop}(q:K [] H):TL X d env wr m H (spliced (backTo pos (starEach [] env))) fun ps H'=>ps.length=0∧K ps H':=
 fun h pv s A E post xi S ok k=>wpAny_items_nil (k [] s h [] H (Bp h) S (by exact AG.n) ⟨rfl,q⟩)
theorem X4 {e:Expr}{r:List Expr}{pos:Pos}{R:PV→AH→Prop}{K:List PV→AH→Prop}{n:Nat}(hs:Kq e=false)(t1:TE X d env wr m H (eval e env) R)
  (t2:∀p H1,R p H1→TL X d env wr m H1 (spliced (backTo pos (starEach r env))) fun ps H2=>ps.length=n∧K (p::ps) H2):TL X d env wr m H (spliced (backTo pos (starEach (e::r) env))) fun ps H2=>ps.length=n+1∧K ps H2:=by
 intro h pv s A E post xi S ok k
 refine wpAny_items_cons ?_ (Hu hs)
 refine t1 h pv s A E _ xi S ok fun va s1 h1 a H1 k1 S1 r1 q1=>?_
 refine t2 a H1 q1 h1 pv s1 A E _ (xi.keeps k1) S1 ok fun vs s2 h2 ps H2 k2 S2 r2 q2=>?_
 exact k (va::vs) s2 h2 (a::ps) H2 (k1.trans k2) S2 (by refine AG.d ?_;exact⟨AP.keeps k2 _ r1,r2⟩) ⟨by simp[q2.1],q2.2⟩
end
end
section
set_option backward.match.sparseCases true
open Classical
section
variable {X:Ctx}{env:Env}{wr:Bool}{m:LM}{H:AH}{d:Nat}{sc:SC}{Q:PV→AH→Prop}{K:Bool→AH→Prop}
theorem R4 (pos:Pos)(op:BoolOp)(x y:Sem Ac)(r:List (Sem Ac)):boolOp pos op (x::y::r)=(do
  let v←x
  standAt pos
  let t←holding [v] (truthy v)
  match op,t with
  | .And,false| .Or,true=>pure v
  |_,_=>boolOp pos op (y::r)):=rfl
theorem Yv {op:BoolOp}{x:Expr}{y:Sem Ac}{r:List (Sem Ac)}{pos:Pos}{R:Bool→PV→AH→Prop}
  (t1:TE X d env wr m H (eval x env) fun p H1=>G7 p fun b=>if b=(op == .Or) then Q p H1 else R b p H1)(t2:∀b p H1,R b p H1→TE X d env wr m H1 (boolOp pos op (y::r)) Q):
  TE X d env wr m H (boolOp pos op (eval x env::y::r)) Q:=by
 intro h pv s A E post xi S ok k
 rw[R4 _ _ _ _ _]
 refine A7 (t1 h pv s A E _ xi S ok fun va s1 h1 a H1 k1 S1 r1 q1=>?_)
 refine A7 (B8 (A7 (Ay (NC r1 q1 fun b qb=>?_))))
 have next:R b a H1→wpAny (model X.prog X.w) A (boolOp pos op (y::r)) post E s1:=fun q=>t2 b a H1 q h1 pv s1 A E _ (xi.keeps k1) S1 ok fun v s3 h3 p H3 k3 S3 r3 q3=>k v s3 h3 p H3 (k1.trans k3) S3 r3 q3
 have stop:Q a H1→post va s1:=fun q=>k va s1 h1 a H1 k1 S1 r1 q
 induction op using E7<;>induction b using AX
 ·rw[if_pos (by decide)] at qb;exact A9 (stop qb)
 ·rw[if_neg (by decide)] at qb;exact next qb
 ·rw[if_neg (by decide)] at qb;exact next qb
 ·rw[if_pos (by decide)] at qb;exact A9 (stop qb)
theorem Qf {e:Expr}(he:isTrue e env (eval e env)=(do let v←eval e env;standAt e.pos;holding [v] (truthy v)))(t1:TE X d env wr m H (eval e env) fun p H1=>G7 p fun b=>K b H1):TB X d env wr m H (isTrue e env (eval e env)) K:=by
 intro h pv s A E post xi S ok k
 refine wpAny_isTrue_value ?_ he
 refine t1 h pv s A E _ xi S ok fun va s1 h1 a H1 k1 S1 r1 q1=>?_
 exact NC r1 q1 fun b qb=>k b s1 h1 H1 k1 S1 qb
theorem aA {e:Expr}{pos:Pos}{w:Sem Ac}(t1:TB X d env wr m H (isTrue e env (eval e env)) fun b H1=>K (!b) H1):TB X d env wr m H (isTrue (.UnaryOp .Not e pos) env w) K:=by
 intro h pv s A E post xi S ok k
 exact wpAny_isTrue_Not (t1 h pv s A E _ xi S ok fun b s1 h1 H1 k1 S1 q1=>k _ s1 h1 H1 k1 S1 q1)
theorem Yw {op:BoolOp}(q:K (op == .And) H):TB X d env wr m H (allTrue op [] env) K:=fun h pv s A E post xi S ok k=>by
 rw[arm_allTrue_nil _ _];exact A9 (k _ s h H (Bp h) S q)
theorem Yx {op:BoolOp}{x:Expr}{r:List Expr}{R:Bool→AH→Prop}(t1:TB X d env wr m H (isTrue x env (eval x env)) fun b H1=>if b=(op == .Or) then K b H1 else R b H1)
  (t2:∀b H1,R b H1→TB X d env wr m H1 (allTrue op r env) K):TB X d env wr m H (allTrue op (x::r) env) K:=by
 intro h pv s A E post xi S ok k
 have next:∀b s1 h1 H1,BH h h1→St X h1 env wr pv m H1 s1→R b H1→wpAny (model X.prog X.w) A (allTrue op r env) post E s1:=fun b s1 h1 H1 k1 S1 q=>
  t2 b H1 q h1 pv s1 A E _ (xi.keeps k1) S1 ok fun v s3 h3 H3 k3 S3 q3=>k v s3 h3 H3 (k1.trans k3) S3 q3
 induction op using E7 with
 |And=>
  refine wpAny_allTrue_And_cons (t1 h pv s A E _ xi S ok fun b s1 h1 H1 k1 S1 q1=>?_)
  induction b using AX
  ·rw[if_pos (by decide)] at q1;rw[if_neg (by decide)];exact k _ s1 h1 H1 k1 S1 q1
  ·rw[if_neg (by decide)] at q1;rw[if_pos rfl];exact next _ s1 h1 H1 k1 S1 q1
 |Or=>
  refine wpAny_allTrue_Or_cons (t1 h pv s A E _ xi S ok fun b s1 h1 H1 k1 S1 q1=>?_)
  induction b using AX
  ·rw[if_neg (by decide)] at q1;rw[if_neg (by decide)];exact next _ s1 h1 H1 k1 S1 q1
  ·rw[if_pos (by decide)] at q1;rw[if_pos rfl];exact k _ s1 h1 H1 k1 S1 q1
theorem Qg {op:CmpOp}{e:Expr}(h:Jb e=false):behindInMarks op e=false:=by
 induction e using AA<;>first|rfl|exact aZ h
theorem Oc {op:CmpOp}{e:Expr}{t:Sem Ac}(h:Jb e=false):markedEach [op] [e] [t]=[t]:=by
 refine(?_:[markedBehindIn op e t]=[t])
 rw[markedBehindIn_of_false (Qg h)];rfl
def TC (X:Ctx)(d:Nat)(env:Env)(wr:Bool)(m:LM)(H:AH)(a:PV)(t:Ac→Sem Ac)(t':Ac→Sem Bool)(K:Bool→AH→Prop):Prop:=
 ∀(h:Heap) (pv:List (Addr×Obj)) (s:Ad) (A:B2) (E:Ac→Ad→Prop) (u:Ac),X.In h→St X h env wr pv m H s→Lh X d A→AP h a u→
  (∀post:Ac→Ad→Prop,(∀b s' h₁ H',BH h h₁→St X h₁ env wr pv m H' s'→K b H'→post (.bool b) s')→wpAny (model X.prog X.w) A (t u) post E s)∧
  (∀post:Bool→Ad→Prop,(∀b s' h₁ H',BH h h₁→St X h₁ env wr pv m H' s'→K b H'→post b s')→wpAny (model X.prog X.w) A (t' u) post E s)
theorem Vq {a:PV}{op:CmpOp}{r:Expr}{pos:Pos}(hs:Jb r=false)(t1:TE X d env wr m H (eval r env) fun b H1=>Qw X op a b H1 fun c=>K c H1):
  TC X d env wr m H a (fun u=>compareChain pos u [op] (markedEach [op] [r] (evalEach [r] env))) (fun u=>testChain pos u [op] (markedEach [op] [r] (evalEach [r] env))) K:=by
 intro h pv s A E u xi S ok ru
 have hu:=ok.lt
 have e:markedEach [op] [r] (evalEach [r] env)=[eval r env]:=Oc hs
 refine⟨fun post k=>?_,fun post k=>?_⟩
 ·dsimp only
  rw[e]
  refine(?_:wpAny _ _ (do let rv←holding [u] (eval r env);standAt pos;operate [u,rv] (compareOp op u rv)) _ _ _)
  refine A7 (Ay (t1 h pv s A E _ xi S ok fun va s1 h1 b H1 k1 S1 r1 q1=>A7 (B8 (IO ?_))))
  exact ST (xi.keeps k1) S1.own (AP.keeps k1 _ ru) r1 q1 (by exact(Al [_,_] 0x14d2280550141f43805502) hu) fun c tk qc=>k c _ _ _ k1 S1.tok qc
 ·dsimp only
  rw[e]
  refine(?_:wpAny _ _ (do let rv←holding [u] (eval r env);standAt pos;let c←operate [u,rv] (compareOp op u rv);holding [c] (truthy c)) _ _ _)
  refine A7 (Ay (t1 h pv s A E _ xi S ok fun va s1 h1 b H1 k1 S1 r1 q1=>A7 (B8 (A7 (IO ?_)))))
  exact ST (xi.keeps k1) S1.own (AP.keeps k1 _ ru) r1 q1 (by exact(Al [_,_] 0x14d2280550141f43805502) hu) fun c tk qc=>Ay (Dk (k c _ _ _ k1 S1.tok qc))
theorem Hl {M:Model}{A:B2}{E:Ac→Ad→Prop}{s:Ad}{vs keep:List Ac}{post:Unit→Ad→Prop}(h:post () s):wpAny M A (release vs keep) post E s:=fun Γ p hΓ=>by
 rewrite[Sem.wp_release];exact h
theorem Vr {a:PV}{op Mb:CmpOp}{ops:List CmpOp}{r r2:Expr}{rs:List Expr}{pos:Pos}{R:Bool→PV→AH→Prop}(hs:Jb r=false)(t1:TE X d env wr m H (eval r env) fun b H1=>Qw X op a b H1 fun c=>if c then R c b H1 else K false H1)
  (t2:∀b H1,R true b H1→TC X d env wr m H1 b (fun u=>compareChain pos u (Mb::ops) (markedEach (Mb::ops) (r2::rs) (evalEach (r2::rs) env))) (fun u=>testChain pos u (Mb::ops) (markedEach (Mb::ops) (r2::rs) (evalEach (r2::rs) env))) K):
  TC X d env wr m H a (fun u=>compareChain pos u (op::Mb::ops) (markedEach (op::Mb::ops) (r::r2::rs) (evalEach (r::r2::rs) env))) (fun u=>testChain pos u (op::Mb::ops) (markedEach (op::Mb::ops) (r::r2::rs) (evalEach (r::r2::rs) env))) K:=by
 intro h pv s A E u xi S ok ru
 have hu:=ok.lt
 have e:markedEach (op::Mb::ops) (r::r2::rs) (evalEach (r::r2::rs) env)=eval r env::markedEach (Mb::ops) (r2::rs) (evalEach (r2::rs) env):=rfl
 refine⟨fun post k=>?_,fun post k=>?_⟩
 ·dsimp only
  rw[e]
  have e2:compareChain pos u (op::Mb::ops) (eval r env::markedEach (Mb::ops) (r2::rs) (evalEach (r2::rs) env))=(do
   let rv←holding [u] (eval r env)
   standAt pos
   let c←holding [u,rv] (compareOp op u rv)
   release [u,rv] [c]
   if←holding [c,rv] (truthy c) then compareChain pos rv (Mb::ops) (markedEach (Mb::ops) (r2::rs) (evalEach (r2::rs) env)) else pure c):=by
   induction ops using Az<;>induction rs using Az<;>rfl
  rw[e2]
  refine A7 (Ay (t1 h pv s A E _ xi S ok fun va s1 h1 b H1 k1 S1 r1 q1=>A7 (B8 (A7 (Ay ?_)))))
  refine ST (xi.keeps k1) S1.own (AP.keeps k1 _ ru) r1 q1 (by exact(Al [_,_] 0x14d2280550141f43805502) hu) fun c tk qc=>A7 (Hl (A7 (Ay (Dk ?_))))
  induction c using AX with
  |true=>
   rw[if_pos rfl] at qc ⊢
   exact(t2 b H1 qc h1 pv _ A E va (xi.keeps k1) S1.tok ok r1).1 post fun c s3 h3 H3 k3 S3 q3=>k c s3 h3 H3 (k1.trans k3) S3 q3
  |false=>
   rw[if_neg (by decide)] at qc ⊢
   exact A9 (k false _ _ _ k1 S1.tok qc)
 ·dsimp only
  rw[e]
  have e2:testChain pos u (op::Mb::ops) (eval r env::markedEach (Mb::ops) (r2::rs) (evalEach (r2::rs) env))=(do
   let rv←holding [u] (eval r env)
   standAt pos
   let c←holding [u,rv] (compareOp op u rv)
   release [u,rv] [c]
   if←holding [c,rv] (truthy c) then testChain pos rv (Mb::ops) (markedEach (Mb::ops) (r2::rs) (evalEach (r2::rs) env)) else pure false):=by
   induction ops using Az<;>induction rs using Az<;>rfl
  rw[e2]
  refine A7 (Ay (t1 h pv s A E _ xi S ok fun va s1 h1 b H1 k1 S1 r1 q1=>A7 (B8 (A7 (Ay ?_)))))
  refine ST (xi.keeps k1) S1.own (AP.keeps k1 _ ru) r1 q1 (by exact(Al [_,_] 0x14d2280550141f43805502) hu) fun c tk qc=>A7 (Hl (A7 (Ay (Dk ?_))))
  induction c using AX with
  |true=>
   rw[if_pos rfl] at qc ⊢
   exact(t2 b H1 qc h1 pv _ A E va (xi.keeps k1) S1.tok ok r1).2 post fun c s3 h3 H3 k3 S3 q3=>k c s3 h3 H3 (k1.trans k3) S3 q3
  |false=>
   rw[if_neg (by decide)] at qc ⊢
   exact A9 (k false _ _ _ k1 S1.tok qc)
theorem Yy {l:Expr}{ops:List CmpOp}{rs:List Expr}{pos:Pos}{R:PV→AH→Prop}(t1:TE X d env wr m H (eval l env) R)
  (t2:∀a H1,R a H1→TC X d env wr m H1 a (fun u=>compareChain pos u ops (markedEach ops rs (evalEach rs env))) (fun u=>testChain pos u ops (markedEach ops rs (evalEach rs env))) fun c H2=>Q (.bool c) H2):
  TE X d env wr m H (eval (.Compare l ops rs pos) env) Q:=by
 intro h pv s A E post xi S ok k
 rw[arm_eval_Compare _ _ _ _ _]
 refine A7 (t1 h pv s A E _ xi S ok fun va s1 h1 a H1 k1 S1 r1 q1=>?_)
 exact(t2 a H1 q1 h1 pv s1 A E va (xi.keeps k1) S1 ok r1).1 post fun c s3 h3 H3 k3 S3 q3=>k _ s3 h3 _ H3 (k1.trans k3) S3 (by refine AP.b' ?_;rfl) q3
theorem Yz {l:Expr}{ops:List CmpOp}{rs:List Expr}{pos:Pos}{w:Sem Ac}{R:PV→AH→Prop}(t1:TE X d env wr m H (eval l env) R)
  (t2:∀a H1,R a H1→TC X d env wr m H1 a (fun u=>compareChain pos u ops (markedEach ops rs (evalEach rs env))) (fun u=>testChain pos u ops (markedEach ops rs (evalEach rs env))) K):
  TB X d env wr m H (isTrue (.Compare l ops rs pos) env w) K:=by
 intro h pv s A E post xi S ok k
 rewrite[KJ]
 refine A7 (t1 h pv s A E _ xi S ok fun va s1 h1 a H1 k1 S1 r1 q1=>?_)
 exact(t2 a H1 q1 h1 pv s1 A E va (xi.keeps k1) S1 ok r1).2 post fun c s3 h3 H3 k3 S3 q3=>k _ s3 h3 H3 (k1.trans k3) S3 q3
end
section
variable {X:Ctx}{env:Env}{wr:Bool}{m:LM}{H:AH}{d:Nat}{sc:SC}{K:LM→AH→Prop}{p:PV}
theorem St.turned {h:Heap}{pv:List (Addr×Obj)}{s:Ad}(S:St X h env wr pv m H s){A:B2}{E:Ac→Ad→Prop}{t:Sem Unit}{post:Unit→Ad→Prop}{K:AH→Prop}
  (go:∀(post:Unit→Ad→Prop) (hf:Heap),BH h hf→Own X hf H s→(∀s' H',Own X hf H' s'→K H'→post () s')→wpAny (model X.prog X.w) A t post E s)
  (k:∀s' h₁ H',BH h h₁→St X h₁ env wr pv m H' s'→K H'→post () s'):wpAny (model X.prog X.w) A t post E s:=by
 refine go _ _ S.own.keepsFrz S.own.freeze fun s' H' O' q=>?_
 refine CP (S.after (Bp _) O') fun h₂ k2 S2 rr=>?_
 exact k s' h₂ H' k2 S2 q
theorem Vs {o:Expr}{name:Str}{pos:Pos}(t1:TE X d env wr m H (eval o env) fun q H1=>Lk X name p H1 (K m) q):TV X d env wr m H p (assign (.Attribute o name pos) env) K:=by
 intro h pv s A E post v xi S ok rv k
 rw[arm_assign_Attribute _ _ _ _ _]
 refine A7 (Ay (t1 h pv s A E _ xi S ok fun va s1 h1 a H1 k1 S1 r1 q1=>?_))
 refine A7 (B8 (A7 (Ay ?_)))
 refine S1.turned (K:=fun H2=>K m H2) (fun post hf kf O go=>TW ((xi.keeps k1).keeps kf) O (AP.keeps kf _ r1) (AP.keeps (k1.trans kf) _ rv) q1 go) fun s2 h2 H2 k2 S2 q2=>?_
 exact Hl (k s2 h2 m H2 (k1.trans k2) S2 q2)
theorem Vt {o i:Expr}{pos:Pos}{R:PV→AH→Prop}(t1:TE X d env wr m H (eval o env) R)(t2:∀q H1,R q H1→TE X d env wr m H1 (eval i env) fun j H2=>Ja q j p H2 (K m)):
  TV X d env wr m H p (assign (.Subscript o i pos) env) K:=by
 intro h pv s A E post v xi S ok rv k
 have hu:=ok.lt
 rw[arm_assign_Subscript _ _ _ _ _]
 refine A7 (Ay (t1 h pv s A E _ xi S ok fun va s1 h1 a H1 k1 S1 r1 q1=>?_))
 refine A7 (Ay (t2 a H1 q1 h1 pv s1 A E _ (xi.keeps k1) S1 ok fun vb s2 h2 b H2 k2 S2 r2 q2=>?_))
 refine A7 (B8 (A7 (Ay ?_)))
 refine S2.turned (K:=fun H2=>K m H2) (fun post hf kf O go=>TJ (((xi.keeps k1).keeps k2).keeps kf) O (AP.keeps (k2.trans kf) _ r1) (AP.keeps kf _ r2) (AP.keeps (k1.trans (k2.trans kf)) _ rv) q2 (by exact(Al [_,_] 0x14d2280550141f43805502) hu) go) fun s3 h3 H3 k3 S3 q3=>?_
 exact Hl (k s3 h3 m H3 (k1.trans (k2.trans k3)) S3 q3)
def Zk (X:Ctx)(d:Nat)(env:Env)(wr:Bool)(m:LM)(H:AH)(ps:List PV)(ts:List (Ac→Sem Unit))(K:LM→AH→Prop):Prop:=
 ∀(h:Heap) (pv:List (Addr×Obj)) (s:Ad) (A:B2) (E:Ac→Ad→Prop) (post:Unit→Ad→Prop) (vs:List Ac),X.In h→St X h env wr pv m H s→Lh X d A→AG h ps vs→
  (∀s' h₁ m' H',BH h h₁→St X h₁ env wr pv m' H' s'→K m' H'→post () s')→wpAny (model X.prog X.w) A (assignInOrder ts vs) post E s
theorem XH (q:K m H):Zk X d env wr m H [] [] K:=fun h pv s A E post vs xi S ok r k=>by
 rw[ai r]
 exact wpAny_assignInOrder_none (k s h m H (Bp h) S q)
theorem XI {t:Ac→Sem Unit}{ts:List (Ac→Sem Unit)}{ps:List PV}{R:LM→AH→Prop}(t1:TV X d env wr m H p t R)(t2:∀m1 H1,R m1 H1→Zk X d env wr m1 H1 ps ts K):Zk X d env wr m H (p::ps) (t::ts) K:=by
 intro h pv s A E post vs xi S ok r k
 induction vs using Az with
 |nil=>exact AF r
 |cons v vs=>
  replace r:=AG.c r
  refine wpAny_assignInOrder_more (t1 h pv s A E _ v xi S ok r.1 fun s1 h1 m1 H1 k1 S1 q1=>?_)
  exact t2 m1 H1 q1 h1 pv s1 A E post vs (xi.keeps k1) S1 ok (AG.keeps k1 _ r.2) fun s2 h2 m2 H2 k2 S2 q2=>k s2 h2 m2 H2 (k1.trans k2) S2 q2
theorem FC:∀{ts:List Expr},EI ts=true→assignEach ts env=ts.map fun t=>(false,assign t env)
 |[],_=>rfl
 |t::r,h=>by
  have h:=Hk h
  have:assignEach (t::r) env=(false,assign t env)::assignEach r env:=by
   have:=h.1
   induction t using AA<;>first|rfl|exact absurd this Eo
  rw[this,FC h.2];rfl
theorem U2 {ts:List Expr}{kk:Nat}{pos:Pos}{ps:List PV}(ns:EI ts=true)(hl:ts.length≤100)(e:Tw p H=some ps)(hn:ts.length=ps.length)(t1:Zk X d env wr m H ps (ts.map fun t=>assign t env) K):
  TV X d env wr m H p (assign (.Tuple ts kk pos) env) K:=by
 intro h pv s A E post v xi S ok rv k
 rw[arm_assign_Tuple _ _ _ _ _,FC ns]
 refine A7 (B8 ?_)
 unfold unpack
 have e1:(ts.map fun t=>(false,assign t env)).findIdx? (·.1)=none:=by simp[GX]
 rw[e1,Ag _,AW,hn]
 refine A7 (Ay (S.unpack xi rv e (by exact(Al [_,_] 0x64280001126428102) hl hn) ok fun vs s1 h1 k1 S1 r1=>?_))
 exact t1 h1 pv s1 A E post vs (xi.keeps k1) S1 ok r1 fun s2 h2 m2 H2 k2 S2 q2=>k s2 h2 m2 H2 (k1.trans k2) S2 q2
end
end
section
open Classical
section
variable {X:Ctx}{d kk:Nat}{sc:SC}{m:LM}{H:AH}{Q:QE}{K:QB}{S:QS}{KL:QL}{KM:LM→AH→Prop}{KP:PV→Prop}{a b:PV}{p q:Pos}{e f l r o i t:Expr}{es rs r2:List Expr}{ps:List PV}{x n:Str}
 {ks:List Keyword}{sco:Scope}{op Mb:CmpOp}{ops:List CmpOp}{bo:BoolOp}{st:Stmt}{bs os:List Stmt}{k:Int}{c:Bool}{fl:Fl}
theorem e4:vE X d (.Name x p) sc m H Q=FR X sc m x (kP Q H):=nr (by z_go)
theorem e5:vE X d (.BoolOp bo es p) sc m H Q=vB X d bo es sc m H Q:=nr (by z_go)
theorem e6 {op:Operator}:vE X d (.BinOp l op r p) sc m H Q=vE X d l sc m H (d9 X d op r sc m Q):=nr (by z_go)
theorem e7 {op:UnaryOp}:vE X d (.UnaryOp op e p) sc m H Q=vE X d e sc m H (kU op Q):=nr (by z_go)
theorem e8:vE X d (.IfExp t e o p) sc m H Q=vT X d t sc m H (bj X d e o sc m Q):=nr (by z_go)
theorem e9:vE X d (.Compare l ops rs p) sc m H Q=vE X d l sc m H (cw X d ops rs sc m (db Q)):=nr (by z_go)
theorem eN:vE X d (.Call (.Attribute o n p) es [] q) sc m H Q=gd (am o es p q) (vE X d o sc m H (Vl X d n es sc m Q)):=nr (by z_go)
theorem eO:vE X d (.Call (.Name x p) es [] q) sc m H Q=gd (ZT (kd x sc)&&HX es) (FR X sc m x (df X d es sc m H Q)):=nr (by z_go)
theorem eP:vE X d (.Attribute o n p) sc m H Q=gd (GA o) (vE X d o sc m H (dg X n Q)):=nr (by z_go)
theorem eQ:vE X d (.Subscript o i p) sc m H Q=vE X d o sc m H (bl X d i sc m Q):=nr (by z_go)
theorem eR:vE X d (.List es p) sc m H Q=gd (HX es) (Ml X d es sc m H (Yn Q)):=nr (by z_go)
theorem eT:vE X d (.Tuple es kk p) sc m H Q=gd (HX es) (Ml X d es sc m H (ao Q)):=nr (by z_go)
theorem eV:vE X d (.Dict [] [] p) sc m H Q=∀c,H c=none→Q (.loc c) (H.set c (.dict [] 0)):=nr (by z_go)
theorem eW:vE X d (.ListComp e [⟨t,i,es,k⟩] sco p) sc m H Q=gd (cv k i sco sc) (vE X d i sc m H (dj X d e t es sco.names (Dw sco.names++m) Q)):=nr (by z_go)
theorem eX {c:Const}:vE X d (.Constant c kk p) sc m H Q=Nr c (kP Q H):=nr (by z_go)
theorem l0:Ml X d [] sc m H KL=KL [] H:=nr (by z_go)
theorem l1:Ml X d (e::es) sc m H KL=vE X d e sc m H (du X d es sc m KL):=nr (by z_go)
theorem b1:vB X d bo [e] sc m H Q=vE X d e sc m H Q:=nr (by z_go)
theorem b2:vB X d bo (e::r::es) sc m H Q=vE X d e sc m H (dw X d bo (r::es) sc m Q):=nr (by z_go)
theorem c1:Wr X d [op] [r] a sc m H K=gd (NR r) (vE X d r sc m H (dy X op a K)):=nr (by z_go)
theorem c2:Wr X d (op::Mb::ops) (r::e::es) a sc m H K=gd (NR r) (vE X d r sc m H (dA X d op a (Mb::ops) (e::es) sc m K)):=nr (by z_go)
theorem t1:vT X d (.UnaryOp .Not e p) sc m H K=vT X d e sc m H (dC K):=nr (by z_go)
theorem t2:vT X d (.BoolOp bo es p) sc m H K=XD X d bo es sc m H K:=nr (by z_go)
theorem t3:vT X d (.Compare l ops rs p) sc m H K=vE X d l sc m H (cw X d ops rs sc m K):=nr (by z_go)
theorem t4:vT X d (.Name x p) sc m H K=FR X sc m x (dD K H):=nr (by z_go)
theorem t5 {c:Const}:vT X d (.Constant c kk p) sc m H K=Nr c (dD K H):=nr (by z_go)
theorem t6:vT X d (.Call (.Attribute o n p) es [] q) sc m H K=gd (am o es p q) (vE X d o sc m H (Vl X d n es sc m (cy K))):=nr (by z_go)
theorem t7:vT X d (.Call (.Name x p) es [] q) sc m H K=gd (ZT (kd x sc)&&HX es) (FR X sc m x (df X d es sc m H (cy K))):=nr (by z_go)
theorem u3:XD X d bo (e::es) sc m H K=vT X d e sc m H (dE X d bo es sc m K):=nr (by z_go)
theorem i2:Vj X d [e] sc m H K=vT X d e sc m H K:=nr (by z_go)
theorem a1:SY X d (.Name x p) sc a m H KM=gd (bf (kd x sc)) (KM (Wo x a m) H):=nr (by z_go)
theorem a2:SY X d (.Attribute o n p) sc a m H KM=gd (GA o) (vE X d o sc m H (dF X n a m KM)):=nr (by z_go)
theorem a3:SY X d (.Subscript o i p) sc a m H KM=gd (ED i).isNone (vE X d o sc m H (dG X d i sc a m KM)):=nr (by z_go)
theorem a4:SY X d (.Tuple es kk p) sc a m H KM=bq X d es sc m H KM (Tw a H):=nr (by z_go)
theorem a5:bq X d es sc m H KM (some ps)=(es.length=ps.length∧gd (HX es) (JR X d es sc ps m H KM)):=nr (by z_go)
theorem a6:JR X d [] sc [] m H KM=KM m H:=nr (by z_go)
theorem a7:JR X d (t::es) sc (a::ps) m H KM=SY X d t sc a m H (av X d es sc ps KM):=nr (by z_go)
theorem s1:vS X d (.Expr (.Call f es ks p) q) sc m H S=vE X d (.Call f es ks p) sc m H (dH m S):=nr (by z_go)
theorem s8:vS X d (.If t bs os p) sc m H S=vT X d t sc m H (bm X d bs os sc m S):=nr (by z_go)
theorem s9:vS X d (.While t bs [] p) sc m H S=∃n,Ij (cA X d t sc) (Ws X d bs sc) n m H S:=nr (by z_go)
theorem eY:vS X d (.For t i bs [] p) sc m H S=gd (NR i) (vE X d i sc m H (dJ X d t bs sc m S)):=nr (by z_go)
theorem eZ:vS X d (.Return (some e) p) sc m H S=vE X d e sc m H (dK m S):=nr (by z_go)
theorem e_:vS X d (.Return none p) sc m H S=S (.ret .none) m H:=nr (by z_go)
theorem f6:vS X d (.Pass p) sc m H S=S .next m H:=nr (by z_go)
theorem f7:vS X d (.Break p) sc m H S=S .brk m H:=nr (by z_go)
theorem f8:vS X d (.Continue p) sc m H S=S .cont m H:=nr (by z_go)
theorem f9:NW X d [] sc m H S=S .next m H:=nr (by z_go)
theorem fb:NW X d (st::bs) sc m H S=vS X d st sc m H (aw X d bs sc S):=nr (by z_go)
theorem k5:bm X d bs os sc m S true H=NW X d bs sc m H S:=if_pos rfl
theorem k6:bm X d bs os sc m S false H=NW X d os sc m H S:=if_neg Eo
theorem k7:bj X d e o sc m Q true H=vE X d e sc m H Q:=if_pos rfl
theorem k8:bj X d e o sc m Q false H=vE X d o sc m H Q:=if_neg Eo
end
end
section
open Classical
def PE (X:Ctx)(e:Expr):Prop:=∀d env wr sc m H Q,ScOk sc env wr→vE X d e sc m H Q→TE X d env wr m H (eval e env) Q
def PT (X:Ctx)(e:Expr):Prop:=∀d env wr sc m H K,ScOk sc env wr→vT X d e sc m H K→TB X d env wr m H (isTrue e env (eval e env)) K
def PA (X:Ctx)(e:Expr):Prop:=∀d env wr sc m H p K,ScOk sc env wr→SY X d e sc p m H K→TV X d env wr m H p (assign e env) K
def XJ (X:Ctx)(es:List Expr):Prop:=∀d env wr sc m H pos K,ScOk sc env wr→EI es=true→Ml X d es sc m H K→TL X d env wr m H (spliced (backTo pos (starEach es env))) fun ps H'=>ps.length=es.length∧K ps H'
def PB (X:Ctx)(es:List Expr):Prop:=∀d env wr sc m H pos op Q,ScOk sc env wr→vB X d op es sc m H Q→TE X d env wr m H (boolOp pos op (evalEach es env)) Q
def YA (X:Ctx)(es:List Expr):Prop:=∀d env wr sc m H pos ops a K,ScOk sc env wr→Wr X d ops es a sc m H K→
 TC X d env wr m H a (fun u=>compareChain pos u ops (markedEach ops es (evalEach es env))) (fun u=>testChain pos u ops (markedEach ops es (evalEach es env))) K
def YB (X:Ctx)(es:List Expr):Prop:=∀d env wr sc m H op K,ScOk sc env wr→XD X d op es sc m H K→TB X d env wr m H (allTrue op es env) K
def YC (X:Ctx)(es:List Expr):Prop:=∀d env wr sc m H K,ScOk sc env wr→Vj X d es sc m H K→
 TB X d env wr m H (forIn es true fun c r=>if r=true then do let ok←isTrue c env (eval c env);pure (DP ok) else pure (DP r)) K
def RW (X:Ctx)(es:List Expr):Prop:=∀d env wr sc m H ps K,ScOk sc env wr→JR X d es sc ps m H K→Zk X d env wr m H ps (es.map fun t=>assign t env) K
theorem z0 {a:Nat}:a<1+a:=Iz Nat.one_pos
theorem z1 {a b:Nat}(h:0<b):a<b+a:=Iz h
theorem z2 {a b c:Nat}(h:a<b):a<b+c:=Nat.lt_add_right c h
theorem z3 {a b:Nat}(h:0<a):0<a+b:=Nat.add_pos_left h b
set_option hygiene false in
local macro_rules |`(tactic|k_few)=>pure mqszT
theorem aC {X:Ctx}(n:Nat)(ihE:∀e:Expr,sizeOf e<n→PE X e∧PT X e∧PA X e)
  (ihL:∀es:List Expr,sizeOf es<n→XJ X es∧PB X es∧YA X es∧YB X es∧YC X es∧RW X es)(e:Expr)(hn:sizeOf e=n):PE X e:=by
 intro d env wr sc m H Q so v
 induction e using AA with
 |Constant c kk p=>exact S_ (C0 eX v)
 |Name x p=>exact RO (C0 e4 v) so
 |BoolOp op vs p=>
  rw[I2] at hn
  rw[arm_eval_BoolOp _ _ _ _]
  exact(ihL _ (by k_few)).2.1 _ _ _ _ _ _ _ _ _ so (C0 e5 v)
 |BinOp l op r p=>
  rw[Expr.BinOp.sizeOf_spec] at hn
  exact az ((ihE _ (by k_few)).1 _ _ _ _ _ _ _ so (C0 e6 v)) fun a H1 q=>(ihE _ (by k_few)).1 _ _ _ _ _ _ _ so q
 |UnaryOp op e p=>
  rw[HD] at hn
  exact cD ((ihE _ (by k_few)).1 _ _ _ _ _ _ _ so (C0 e7 v))
 |IfExp t b o p=>
  rw[Expr.IfExp.sizeOf_spec] at hn
  exact WY ((ihE _ (by k_few)).2.1 _ _ _ _ _ _ _ so (C0 e8 v)) (fun H1 q=>(ihE _ (by k_few)).1 _ _ _ _ _ _ _ so (C0 k7 q)) (fun H1 q=>(ihE _ (by k_few)).1 _ _ _ _ _ _ _ so (C0 k8 q))
 |Compare l ops rs p=>
  rw[HE] at hn
  exact Yy ((ihE _ (by k_few)).1 _ _ _ _ _ _ _ so (C0 e9 v)) fun a H1 q=>(ihL _ (by k_few)).2.2.1 _ _ _ _ _ _ _ _ _ _ so q
 |Call f as ks p=>
  rw[J6] at hn
  induction ks using Az with
  |cons=>induction f using AA<;>exact v.elim
  |nil=>
   induction f using AA with
   |Attribute o name ap=>
    rw[D6] at hn
    refine Aw (CX (C0 eN v)) fun h1 v=>?_
    have h1:=Ae.mp h1
    have h2:=Ae.mp h1.2
    have h3:=F7 h2.1
    exact O7 h1.1 h3 h2.2 ((ihE _ (by rw[←hn];exact z2 (z2 (z2 (Gs (z2 (z2 z0)) z0))))).1 _ _ _ _ _ _ _ so v) fun H1 K q=>((ihL _ (by k_few)).1 _ _ _ _ _ _ _ _ so (Ee h3).1 q).mono fun uu uu z=>z.2
   |Name x ap=>
    refine Aw (CX (C0 eO v)) fun h1 v=>?_
    have h1:=Ae.mp h1
    exact O0 so (F7 h1.2) v fun K q=>((ihL _ (by k_few)).1 _ _ _ _ _ _ _ _ so (Ee (F7 h1.2)).1 q).mono fun uu uu z=>z.2
   |_=>exact v.elim
 |Attribute o n p=>
  rw[D6] at hn
  refine Aw (CX (C0 eP v)) fun h1 v=>?_
  exact Yr h1 ((ihE _ (by k_few)).1 _ _ _ _ _ _ _ so v)
 |Subscript o i pos=>
  rw[GO] at hn
  have v:=C0 eQ v
  cases hs:ED i with
  |some sl=>exact WZ hs (((ihE _ (by k_few)).1 _ _ _ _ _ _ _ so v).mono fun a H1 q=>by unfold bl at q;rw[hs] at q;exact q)
  |none=>
   refine Ys (R:=fun a H1=>vE X d i sc m H1 (cx a Q)) (fun a H1 q=>?_) (((ihE _ (by k_few)).1 _ _ _ _ _ _ _ so v).mono fun a H1 q=>by unfold bl at q;rw[hs] at q;exact q) fun a H1 q=>(ihE _ (by k_few)).1 _ _ _ _ _ _ _ so q
   induction i using AA<;>first|rfl|exact q.elim
 |List es p=>
  rw[Expr.List.sizeOf_spec] at hn
  refine Aw (CX (C0 eR v)) fun h1 v=>?_
  have h1:=Ee (F7 h1)
  exact Yt (Aa h1.2 (by decide)) ((ihL _ (by k_few)).1 _ _ _ _ _ _ _ _ so h1.1 v)
 |Tuple es kk p=>
  rw[ID] at hn
  refine Aw (CX (C0 eT v)) fun h1 v=>?_
  have h1:=Ee (F7 h1)
  exact T3 (Aa h1.2 (by decide)) ((ihL _ (by k_few)).1 _ _ _ _ _ _ _ _ so h1.1 v)
 |Dict ks vs p=>
  induction ks using Az with
  |nil=>
   induction vs using Az with
   |nil=>exact X2 (C0 eV v)
   |cons=>exact v.elim
  |cons=>exact v.elim
 |ListComp elt gs scope pos=>
  rcases gs with _|⟨⟨t,i,ifs,a⟩,_|⟨g2,gs⟩⟩
  ·exact v.elim
  ·rw[Expr.ListComp.sizeOf_spec,Fx,N4] at hn
   have w:=CX (C0 eW v)
   clear v
   revert w;refine fun zq=>Aw zq fun h1 w=>?_;clear zq
   have h0:=Ae.mp h1
   have h3:=Ae.mp h0.2
   have h2:=Ae.mp h3.2
   obtain rfl:=Et h0.1
   have hk:scope.kind= .function:=by
    cases q:scope.kind<;>rw[q] at h2<;>first|rfl|exact absurd h2.1 AD
   have hs:=Lu h3.1
   exact RU hs hk h2.2 so (fun cenv so' p m H K q=>(ihE _ (by x_go)).2.2 _ _ _ _ _ _ _ _ so' q) (fun cenv so' m H K q=>(ihL _ (by x_go)).2.2.2.2.1 _ _ _ _ _ _ _ so' q)
    (fun cenv so' m H K q=>(ihE _ (by k_few)).1 _ _ _ _ _ _ _ so' q) ((ihE _ (by x_go)).1 _ _ _ _ _ _ _ so w)
  ·exact v.elim
 |_=>exact v.elim
theorem aD {X:Ctx}(n:Nat)(ihE:∀e:Expr,sizeOf e<n→PE X e∧PT X e∧PA X e)
  (ihL:∀es:List Expr,sizeOf es<n→XJ X es∧PB X es∧YA X es∧YB X es∧YC X es∧RW X es)(e:Expr)(hn:sizeOf e=n):PT X e:=by
 intro d env wr sc m H K so v
 induction e using AA with
 |UnaryOp op e p=>
  rw[HD] at hn
  induction op using Da with
  |Not=>exact aA ((ihE _ (by k_few)).2.1 _ _ _ _ _ _ _ so (C0 t1 v))
  |_=>exact v.elim
 |BoolOp op vs p=>
  rw[I2] at hn
  intro h pv s A E post xi S ok k
  exact wpAny_isTrue_BoolOp ((ihL _ (by k_few)).2.2.2.1 _ _ _ _ _ _ _ _ so (C0 t2 v) h pv s A E post xi S ok k)
 |Compare l ops rs p=>
  rw[HE] at hn
  exact Yz ((ihE _ (by k_few)).1 _ _ _ _ _ _ _ so (C0 t3 v)) fun a H1 q=>(ihL _ (by k_few)).2.2.1 _ _ _ _ _ _ _ _ _ _ so q
 |Name x p=>exact Qf rfl (RO (C0 t4 v) so)
 |Constant c kk p=>exact Qf rfl (S_ (C0 t5 v))
 |Call f as ks p=>
  rw[J6] at hn
  induction ks using Az with
  |cons=>induction f using AA<;>exact v.elim
  |nil=>
   induction f using AA with
   |Attribute o name ap=>
    rw[D6] at hn
    refine Aw (CX (C0 t6 v)) fun h1 v=>?_
    have h1:=Ae.mp h1
    have h2:=Ae.mp h1.2
    have h3:=F7 h2.1
    exact Qf rfl (O7 h1.1 h3 h2.2 ((ihE _ (by rw[←hn];exact z2 (z2 (z2 (Gs (z2 (z2 z0)) z0))))).1 _ _ _ _ _ _ _ so v) fun H1 K q=>((ihL _ (by k_few)).1 _ _ _ _ _ _ _ _ so (Ee h3).1 q).mono fun uu uu z=>z.2)
   |Name x ap=>
    refine Aw (CX (C0 t7 v)) fun h1 v=>?_
    have h1:=Ae.mp h1
    exact Qf rfl (O0 so (F7 h1.2) v fun K q=>((ihL _ (by k_few)).1 _ _ _ _ _ _ _ _ so (Ee (F7 h1.2)).1 q).mono fun uu uu z=>z.2)
   |_=>exact v.elim
 |_=>exact v.elim
theorem aE {X:Ctx}(n:Nat)(ihE:∀e:Expr,sizeOf e<n→PE X e∧PT X e∧PA X e)
  (ihL:∀es:List Expr,sizeOf es<n→XJ X es∧PB X es∧YA X es∧YB X es∧YC X es∧RW X es)(e:Expr)(hn:sizeOf e=n):PA X e:=by
 intro d env wr sc m H p K so v
 induction e using AA with
 |Name x p=>
  refine Aw (CX (C0 a1 v)) fun h1 v=>?_
  exact Vm ⟨SO h1,v⟩ so
 |Attribute o n p=>
  rw[D6] at hn
  refine Aw (CX (C0 a2 v)) fun h1 v=>?_
  exact Vs ((ihE _ (by k_few)).1 _ _ _ _ _ _ _ so v)
 |Subscript o i p=>
  rw[GO] at hn
  refine Aw (CX (C0 a3 v)) fun h1 v=>?_
  exact Vt ((ihE _ (by k_few)).1 _ _ _ _ _ _ _ so v) fun q H1 z=>(ihE _ (by k_few)).1 _ _ _ _ _ _ _ so z
 |Tuple ts kk q=>
  rw[ID] at hn
  have v:=C0 a4 v
  cases e:Tw p H with
  |none=>rw[e] at v;exact v.elim
  |some ps=>
   rw[e] at v
   refine Aw (C0 a5 v) fun h1 v=>?_
   refine Aw (CX v) fun h2 v=>?_
   have nf:=Ee (F7 h2)
   exact U2 nf.1 (Aa nf.2 (by decide)) e h1 ((ihL _ (by k_few)).2.2.2.2.2 _ _ _ _ _ _ _ _ so v)
 |_=>exact v.elim
theorem aF {X:Ctx}(n:Nat)(ihE:∀e:Expr,sizeOf e<n→PE X e∧PT X e∧PA X e)
  (ihL:∀es:List Expr,sizeOf es<n→XJ X es∧PB X es∧YA X es∧YB X es∧YC X es∧RW X es)(es:List Expr)(hn:sizeOf es=n):
  XJ X es∧PB X es∧YA X es∧YB X es∧YC X es∧RW X es:=by
 induction es using Az with
 |nil=>
  refine⟨fun d env wr sc m H pos K so ns v=>Yu (C0 l0 v),fun d env wr sc m H pos op Q so v=>v.elim,fun d env wr sc m H pos ops a K so v=>by{rcases ops with _|⟨_,_|_⟩<;>exact v.elim},fun d env wr sc m H op K so v=>Yw v,
   fun d env wr sc m H K so v h pv s A E post xi S ok k=>?_,fun d env wr sc m H ps K so v=>?_⟩
  ·rw[JC]
   exact A9 (k _ s h H (Bp h) S v)
  ·induction ps using Az with
   |nil=>exact XH (C0 a6 v)
   |cons=>exact v.elim
 |cons e r=>
  rw[Fx] at hn
  have iE:=ihE e (by k_few)
  have iL:=ihL r (by k_few)
  refine⟨fun d env wr sc m H pos K so ns v=>?_,fun d env wr sc m H pos op Q so v=>?_,fun d env wr sc m H pos ops a K so v=>?_,fun d env wr sc m H op K so v=>?_,fun d env wr sc m H K so v=>?_,fun d env wr sc m H ps K so v=>?_⟩
  ·have ns:=Hk ns
   exact X4 ns.1 (iE.1 _ _ _ _ _ _ _ so (C0 l1 v)) fun p H1 q=>iL.1 _ _ _ _ _ _ _ _ so ns.2 q
  ·induction r using Az with
   |nil=>exact iE.1 _ _ _ _ _ _ _ so (C0 b1 v)
   |cons e2 r=>exact Yv (R:=fun uu p H1=>vB X d op (e2::r) sc m H1 Q) (iE.1 _ _ _ _ _ _ _ so (C0 b2 v)) fun b p H1 q=>iL.2.1 _ _ _ _ _ _ _ _ _ so q
  ·skip
   rcases ops with _|⟨op,_|⟨Mb,ops⟩⟩
   ·exact v.elim
   ·induction r using Az with
    |nil=>
     refine Aw (CX (C0 c1 v)) fun h1 v=>?_
     exact Vq (Lu h1) (iE.1 _ _ _ _ _ _ _ so v)
    |cons=>exact v.elim
   ·induction r using Az with
    |nil=>exact v.elim
    |cons r2 rs=>
     refine Aw (CX (C0 c2 v)) fun h1 v=>?_
     exact Vr (R:=fun uu b H1=>Wr X d (Mb::ops) (r2::rs) b sc m H1 K) (Lu h1) (iE.1 _ _ _ _ _ _ _ so v) fun b H1 q=>iL.2.2.1 _ _ _ _ _ _ _ _ _ _ so q
  ·exact Yx (R:=fun uu H1=>XD X d op r sc m H1 K) (iE.2.1 _ _ _ _ _ _ _ so (C0 u3 v)) fun b H1 q=>iL.2.2.2.1 _ _ _ _ _ _ _ _ so q
  ·induction r using Az with
   |cons=>exact v.elim
   |nil=>
    intro h pv s A E post xi S ok k
    rw[Nd _ _ _ _,if_pos rfl]
    refine A7 (A7 (iE.2.1 _ _ _ _ _ _ _ so (C0 i2 v) h pv s A E _ xi S ok fun b s1 h1 H1 k1 S1 q1=>A9 ?_))
    dsimp only
    rw[JC]
    exact A9 (k b s1 h1 H1 k1 S1 q1)
  ·induction ps using Az with
   |nil=>exact v.elim
   |cons p ps=>exact XI (R:=fun m1 H1=>JR X d _ sc _ m1 H1 K) (iE.2.2 _ _ _ _ _ _ _ _ so (C0 a7 v)) fun m1 H1 q=>iL.2.2.2.2.2 _ _ _ _ _ _ _ _ so q
theorem T4 {X:Ctx}:∀n,(∀e:Expr,sizeOf e=n→PE X e∧PT X e∧PA X e)∧(∀es:List Expr,sizeOf es=n→XJ X es∧PB X es∧YA X es∧YB X es∧YC X es∧RW X es):=by
 intro n
 induction n using Gd with
 |ind n ih=>
  have ihE:∀e:Expr,sizeOf e<n→PE X e∧PT X e∧PA X e:=fun e h=>(ih _ h).1 e rfl
  have ihL:∀es:List Expr,sizeOf es<n→XJ X es∧PB X es∧YA X es∧YB X es∧YC X es∧RW X es:=fun es h=>(ih _ h).2 es rfl
  exact⟨fun e h=>⟨aC n ihE ihL e h,aD n ihE ihL e h,aE n ihE ihL e h⟩,fun es h=>aF n ihE ihL es h⟩
theorem LC {X:Ctx}(e:Expr):PE X e:=((T4 _).1 e rfl).1
theorem T5 {X:Ctx}(e:Expr):PT X e:=((T4 _).1 e rfl).2.1
theorem T6 {X:Ctx}(e:Expr):PA X e:=((T4 _).1 e rfl).2.2
theorem R5 {X:Ctx}(es:List Expr):XJ X es:=((T4 _).2 es rfl).1
end
section
set_option backward.match.sparseCases true
open Classical
section
variable {X:Ctx}{env:Env}{wr:Bool}{m:LM}{H:AH}{d:Nat}{sc:SC}
theorem Pt {K:LM→AH→Prop}(so:ScOk sc env wr):∀{nps:List (Str×Pos)} {ps:List PV} {m:LM} {H:AH},JR X d (nps.map (fun q=>Ib q.1 q.2)) sc ps m H K→Zk X d env wr m H ps (nps.map fun q=>bindName env q.1) K
 |[],ps,m,H,v=>by
  induction ps using Az with
  |nil=>exact XH (C0 a6 v)
  |cons _ _=>exact v.elim
 |q::nps,ps,m,H,v=>by
  induction ps using Az with
  |nil=>exact v.elim
  |cons p ps=>
   refine Aw (CX (C0 a1 (C0 a7 v))) fun h1 v=>?_
   refine XI (R:=fun m1 H1=>JR X d (nps.map (fun q=>Ib q.1 q.2)) sc ps m1 H1 K) (fun h pv s A E post u xi S ok r k=>?_) fun m1 H1 z=>Pt so z
   refine wpAny_bindName ?_
   refine Ap (SO h1) (fun hk=>?_) fun hk=>?_
   ·exact S.storeL (so.loc _ hk) r fun s' S'=>k s' h _ H (Bp h) S' v
   ·refine Aw (so.cell _ hk) fun hw hk=>?_
    exact S.storeC hw hk r fun s' S'=>k s' h _ H (Bp h) S' v
theorem dM {e:Expr}(h:(xt e == 4)=true):∃f as ks p,e= .Call f as ks p:=by induction e using AA<;>first|exact FI h|exact bC _ _ _ _ rfl
theorem fe {e:Expr}(h:(xt e == 5)=true):∃x p,e= .Name x p:=by induction e using AA<;>first|exact FI h|exact Wx _ _ rfl
theorem fh {e:Expr}(h:(xt e == 8)=true):∃es p,e= .List es p:=by induction e using AA<;>first|exact FI h|exact Wx _ _ rfl
theorem U3 {a b:Option (Str×Pos)}(h:Vk sc a b=true):∃x y:Str×Pos,a=some x∧b=some y∧kd x.1 sc=some .local∧kd y.1 sc=some .local∧y.2.line=x.2.line∧(y.1 == x.1)=false:=by
 match a,b,h with
 |some x,some y,h=>
  have h:=Ae.mp h
  have h2:=Ae.mp h.2
  have h3:=Ae.mp h2.2
  refine Uy x y rfl rfl (SP h.1) (SP h2.1) (Fw h3.1) (beq_eq_false_iff_ne.mpr fun e=>?_)
  rw[F1.mpr e.symm] at h3
  exact FI h3.2
 |none,_,h=>exact FI h
 |some _,none,h=>exact FI h
theorem U4 {ts vs:List Expr}(h:SZ ts vs sc=true):∃(x y:Str×Pos) (f:Expr) (as:List Expr) (ks:List Keyword) (p:Pos) (es:List Expr) (q:Pos),ts=[.Name x.1 x.2, .Name y.1 y.2]∧vs=[.Call f as ks p, .List es q]∧kd x.1 sc=some .local∧kd y.1 sc=some .local∧y.2.line=x.2.line∧(y.1 == x.1)=false:=by
 rcases ts with _|⟨t,_|⟨u,_|⟨_,_⟩⟩⟩
 ·exact FI h
 ·exact FI h
 ·rcases vs with _|⟨e,_|⟨f,_|⟨_,_⟩⟩⟩
  ·exact FI h
  ·exact FI h
  ·have h:=Ae.mp (show(xt e == 4&&(xt f == 8&&Vk sc (NT t) (NT u)))=true from h)
   have h2:=Ae.mp h.2
   refine Cv (U3 h2.2) fun x y e1 e2 h3=>?_
   refine Zn (dM h.1) fun f as ks p e3=>?_
   refine IV (fh h2.1) fun es q e4=>?_
   rw[NU e1,NU e2,e3,e4]
   exact⟨x,y,f,as,ks,p,es,q,rfl,rfl,h3⟩
  ·exact FI h
 ·exact FI h
theorem RX {x y:Str×Pos}{f:Expr}{as es:List Expr}{ks:List Keyword}{k1 k2:Nat}{p q p1 p2:Pos}(so:ScOk sc env wr)(hk:env.scope.kind= .function)(h1:kd x.1 sc=some .local)(h2:kd y.1 sc=some .local)(h3:y.2.line=x.2.line)(h4:(y.1 == x.1)=false):
  swappedStores [.Tuple [.Name x.1 x.2, .Name y.1 y.2] k1 p1] (.Tuple [.Call f as ks p, .List es q] k2 p2) env=pure (some [x.1,y.1]):=by
 have hb:env.blockKind= .function:=by unfold Env.blockKind;rw[hk];rfl
 have e1:(env.kindOf x.1 == some NameKind.local&&x.2.line == x.2.line)=true:=by rw[so.loc _ h1];exact beq_self_eq_true x.2.line
 have e2:(env.kindOf y.1 == some NameKind.local&&y.2.line == x.2.line)=true:=by rw[so.loc _ h2,h3];exact beq_self_eq_true x.2.line
 have e3:(match[x.1].any (y.1 == ·) with|true=>J4 (· == ·) [] [x.1]|false=>J4 (· == ·) [] [y.1,x.1])=[x.1,y.1]:=by
  rewrite[show[x.1].any (y.1 == ·)=false from(congrArg (· ||false) h4)]
  rfl
 have e0:∀bk ns,bk= .function→ns=[x.1,y.1]→(if(bk != ScopeKind.function)=true then pure none else if(ns.length != 2||ns.eraseDups.length != ns.length)=true then pure none else pure (some ns):Sem (Option (List Str)))=pure (some [x.1,y.1]):=fun bk ns h1 h2=>by
  rw[h1,h2];rewrite[show[x.1,y.1].eraseDups=_ from e3]
  rfl
 refine e0 env.blockKind _ hb ?_
 rewrite[EB (b:=x.1) (by exact if_pos e1),EB (b:=y.1) (by exact if_pos e2)]
 rfl
theorem YD {ts vs:List Expr}{k1 k2:Nat}{p1 p2 pos:Pos}{Q:Fl→LM→AH→Prop}(so:ScOk sc env wr)(h:SZ ts vs sc=true)
  (v:Ml X d vs sc m H fun ps H=>JR X d ts.reverse sc ps.reverse m H fun m H=>Q .next m H):TF X d env wr m H (exec (.Assign [.Tuple ts k1 p1] (.Tuple vs k2 p2) pos) env) Q:=by
 intro hh pv s A E post xi S ok k
 refine AI (U4 h) fun x zr=>?_;refine AI zr fun y zr=>?_;refine AI zr fun f zr=>?_;refine AI zr fun as zr=>?_;refine AI zr fun ks zr=>?_;refine Tq zr fun p es q z3 z4 h1 h2 h3 h4=>?_;clear zr;subst z3;subst z4
 rw[arm_exec_Assign _ _ _ _]
 refine A7 (B8 (A7 (Ek (a:=false) rfl ?_)))
 rw[if_neg (by decide)]
 refine A7 (T3 (Q:=fun v H1=>∃ps,v= .tup ps∧ps.length=2∧JR X d [.Name y.1 y.2, .Name x.1 x.2] sc ps.reverse m H1 fun m H=>Q .next m H) (by exact(show 2≤100 by decide)) ((R5 _ _ _ _ _ _ _ _ _ so rfl v).mono fun ps H1 z=>⟨z.1,ps,rfl,z.1,z.2⟩) hh pv s A _ _ xi S ok fun v s1 h1' p H1 k1 S1 r1 q1=>?_)
 revert q1;refine fun zq=>CP zq fun ps z1 hl q1=>?_;clear zq;subst z1
 refine A7 (Ek (RX so S.kind h1 h2 h3 h4) (A7 (Cs (A7 ?_))))
 rewrite[show[x.1,y.1].length=ps.length from hl.symm]
 refine S1.unpack (xi.keeps k1) r1 rfl (by rw[hl];decide) ok fun vs2 s2 h2 k2 S2 r2=>?_
 refine A7 (Pt so (nps:=[y,x]) q1 h2 pv s2 A _ _ vs2.reverse ((xi.keeps k1).keeps k2) S2 ok r2.reverse fun s3 h3 m3 H3 k3 S3 q3=>?_)
 exact A9 (k .next s3 h3 .next m3 H3 (k1.trans (k2.trans k3)) S3 rfl q3)
theorem RY {e t:Expr}{line:Nat}(h:(!(xt e == 3))=true):swapsWithSole [t] e line env=pure false:=by induction e using AA<;>first|rfl|exact FI h
theorem YE {t e:Expr}{line:Nat}(h:NS t e=true):swapsWithSole [t] e line env=pure false∧swappedStores [t] e env=pure none∧Kq t=false:=by
 induction t using AA with
 |Name x p=>exact⟨RY h,rfl,rfl⟩
 |Attribute o a p=>exact⟨RY h,rfl,rfl⟩
 |Subscript o a p=>exact⟨RY h,rfl,rfl⟩
 |Tuple ts a p=>
  refine Ap (Eu.mp h) (fun h=>?_) fun h=>?_
  ·refine Zn (dM h) fun uu uu uu uu z4=>?_;subst z4
   exact⟨rfl,rfl,rfl⟩
  ·refine IV (fe h) fun uu uu z2=>?_;subst z2
   exact⟨rfl,rfl,rfl⟩
 |_=>exact FI h
theorem Vu {t e:Expr}{pos:Pos}{Q:Fl→LM→AH→Prop}(so:ScOk sc env wr)(h:NS t e=true)(v:vE X d e sc m H fun p H=>SY X d t sc p m H fun m H=>Q .next m H):TF X d env wr m H (exec (.Assign [t] e pos) env) Q:=by
 intro hh pv s A E post xi S ok k
 refine DF (YE (env:=env) (line:=pos.line) h) fun e1 e2 e3=>?_
 rw[arm_exec_Assign _ _ _ _,e1,e2];rewrite[FC (ts:=[t]) (by rw[show EI [t]=(!Kq t&&true) from rfl,e3];rfl)]
 refine A7 (B8 (A7 (A9 ?_)))
 rw[if_neg (by decide)]
 refine A7 (LC e _ _ _ _ _ _ _ so v hh pv s A _ _ xi S ok fun v s1 h1 p H1 k1 S1 r1 q1=>A7 (A9 ?_))
 refine(?_:wpAny _ _ (assignAll v [assign t env]>>=fun uu=>pure Flow.next) _ _ _)
 refine A7 ?_
 refine(?_:wpAny _ _ (assign t env v) _ _ _)
 refine T6 t _ _ _ _ _ _ _ _ so q1 h1 pv s1 A _ _ v (xi.keeps k1) S1 ok r1 fun s2 h2 m2 H2 k2 S2 q2=>A9 (k .next s2 h2 .next m2 H2 (k1.trans k2) S2 rfl q2)
theorem YF {f:Expr}{as:List Expr}{ks:List Keyword}{p pos:Pos}{Q:Fl→LM→AH→Prop}(so:ScOk sc env wr)(v:vE X d (.Call f as ks p) sc m H fun uu H=>Q .next m H):TF X d env wr m H (exec (.Expr (.Call f as ks p) pos) env) Q:=by
 intro hh pv s A E post xi S ok k
 rewrite[exec_Expr env _ pos (by unfold interactive;rw[S.kind];rfl) rfl]
 refine A7 (B8 (A7 (LC _ _ _ _ _ _ _ _ so v hh pv s A _ _ xi S ok fun v s1 h1 p H1 k1 S1 r1 q1=>?_)))
 have fin:=k .next s1 h1 .next m H1 k1 S1 rfl q1
 induction v using Ev with
 |ref a=>exact A7 (B8 (A7 (Fm (BZ entry_let_go (show wpAny _ _ (ret .none) _ _ s1 from A9 (A9 fin))))))
 |_=>exact A9 fin
theorem aG {e:Expr}{pos:Pos}{Q:Fl→LM→AH→Prop}(so:ScOk sc env wr)(v:vE X d e sc m H fun p H=>Q (.ret p) m H):TF X d env wr m H (exec (.Return (some e) pos) env) Q:=by
 intro hh pv s A E post xi S ok k
 exact wpAny_Return_some (LC e _ _ _ _ _ _ _ so v hh pv s A _ _ xi S ok fun v s1 h1 p H1 k1 S1 r1 q1=>k (.ret v) s1 h1 (.ret p) m H1 k1 S1 ⟨v,rfl,r1⟩ q1)
theorem cE {t:Expr}{b o:List Stmt}{pos:Pos}{Q:Fl→LM→AH→Prop}{R:Bool→AH→Prop}(t1:TB X d env wr m H (isTrue t env (eval t env)) R)(t2:∀H1,R true H1→TF X d env wr m H1 (execs b env) Q)(t3:∀H1,R false H1→TF X d env wr m H1 (execs o env) Q):
  TF X d env wr m H (exec (.If t b o pos) env) Q:=by
 intro h pv s A E post xi S ok k
 refine wpAny_If (t1 h pv s A E _ xi S ok fun c s1 h1 H1 k1 S1 q1=>?_)
 induction c using AX with
 |true=>exact t2 H1 q1 h1 pv s1 A E _ (xi.keeps k1) S1 ok fun f s3 h3 fl m3 H3 k3 S3 r3 q3=>k f s3 h3 fl m3 H3 (k1.trans k3) S3 r3 q3
 |false=>exact t3 H1 q1 h1 pv s1 A E _ (xi.keeps k1) S1 ok fun f s3 h3 fl m3 H3 k3 S3 r3 q3=>k f s3 h3 fl m3 H3 (k1.trans k3) S3 r3 q3
theorem YG {Q:Fl→LM→AH→Prop}(q:Q .next m H):TF X d env wr m H (execs [] env) Q:=fun h pv s A E post xi S ok k=>Gc (k .next s h .next m H (Bp h) S rfl q)
theorem X5 {st:Stmt}{r:List Stmt}{Q:Fl→LM→AH→Prop}{R:Fl→LM→AH→Prop}(t1:TF X d env wr m H (exec st env) fun f m H=>Yl f (R f m H) (Q f m H))(t2:∀m H,R .next m H→TF X d env wr m H (execs r env) Q):TF X d env wr m H (execs (st::r) env) Q:=by
 intro h pv s A E post xi S ok k
 refine D2 (t1 h pv s A E _ xi S ok fun f s1 h1 fl m1 H1 k1 S1 r1 q1=>?_)
 induction fl using Mine.Internal.Fl.casesOn with
 |next=>
  subst r1
  exact t2 m1 H1 q1 h1 pv s1 A E _ (xi.keeps k1) S1 ok fun f s3 h3 fl m3 H3 k3 S3 r3 q3=>k f s3 h3 fl m3 H3 (k1.trans k3) S3 r3 q3
 |cont=>subst r1;exact k .cont s1 h1 .cont m1 H1 k1 S1 rfl q1
 |brk=>subst r1;exact k .brk s1 h1 .brk m1 H1 k1 S1 rfl q1
 |ret p=>
  refine AB r1 fun w z1 rw1=>?_;clear r1;subst z1
  exact k (.ret w) s1 h1 (.ret p) m1 H1 k1 S1 ⟨w,rfl,rw1⟩ q1
end
def PS (X:Ctx)(st:Stmt):Prop:=∀d env wr sc m H Q,ScOk sc env wr→vS X d st sc m H Q→TF X d env wr m H (exec st env) Q
def cF (X:Ctx)(sts:List Stmt):Prop:=∀d env wr sc m H Q,ScOk sc env wr→NW X d sts sc m H Q→TF X d env wr m H (execs sts env) Q
set_option hygiene false in
local macro_rules |`(tactic|k_few)=>pure mqszT
theorem Vv {X:Ctx}:∀n,(∀st:Stmt,sizeOf st=n→PS X st)∧(∀sts:List Stmt,sizeOf sts=n→cF X sts):=by
 intro n
 induction n using Gd with
 |ind n ih=>
  have ihS:∀st:Stmt,sizeOf st<n→PS X st:=fun e h=>(ih _ h).1 e rfl
  have ihL:∀sts:List Stmt,sizeOf sts<n→cF X sts:=fun e h=>(ih _ h).2 e rfl
  refine⟨fun st hn d env wr sc m H Q so v=>?_,fun sts hn d env wr sc m H Q so v=>?_⟩
  ·induction st using KO with
   |Expr e p=>
    induction e using AA with
    |Call f as ks p=>exact YF so (C0 s1 v)
    |_=>exact v.elim
   |Assign ts e p=>
    rcases ts with _|⟨t,_|_⟩
    ·exact v.elim
    ·have v:Ym X d t e sc m H Q (NV t) (NV e):=v
     have plain:∀{a b},Ym X d t e sc m H Q a b→(∀ts vs,a=some ts→b≠some vs)→TF X d env wr m H (exec (.Assign [t] e p) env) Q:=fun{a b} v n=>by
      have v:gd (NS t e) (vE X d e sc m H (dI X d t sc m Q)):=match a,b,v,n with
       |none,_,v,_=>v
       |some _,none,v,_=>v
       |some ts,some vs,_,n=>absurd rfl (n ts vs rfl)
      refine Aw (CX v) fun h1 v=>?_
      exact Vu so h1 v
     cases h1:NV t with
     |none=>exact plain v fun uu uu z=>by rw[h1] at z;exact CC z
     |some ts=>
      cases h2:NV e with
      |none=>exact plain v fun uu uu uu z=>by rw[h2] at z;exact CC z
      |some vs=>
       rw[h1,h2] at v
       refine IV (Po h1) fun k q z2=>?_;subst z2
       refine IV (Po h2) fun k2 q2 z2=>?_;subst z2
       refine Aw (CX v) fun h1 v=>?_
       exact YD so (Ae.mp h1).1 v
    ·exact v.elim
   |If t b o p=>
    rw[Stmt.If.sizeOf_spec] at hn
    exact cE (T5 _ _ _ _ _ _ _ _ so (C0 s8 v)) (fun H1 q=>ihL _ (by k_few) _ _ _ _ _ _ _ so (C0 k5 q)) (fun H1 q=>ihL _ (by k_few) _ _ _ _ _ _ _ so (C0 k6 q))
   |While t b o p=>
    rw[Stmt.While.sizeOf_spec] at hn
    induction o using Az with
    |nil=>exact WX (fun m H K q=>T5 _ _ _ _ _ _ _ _ so q) (fun m H K q=>ihL _ (by k_few) _ _ _ _ _ _ _ so q) (C0 s9 v)
    |cons=>exact v.elim
   |For t i b o p=>
    rw[Stmt.For.sizeOf_spec] at hn
    induction o using Az with
    |nil=>
     refine Aw (CX (C0 eY v)) fun h1 v=>?_
     exact ay (Lu h1) (fun p m H K q=>T6 _ _ _ _ _ _ _ _ _ so q) (fun m H K q=>ihL _ (by k_few) _ _ _ _ _ _ _ so q) (LC _ _ _ _ _ _ _ _ so v)
    |cons=>exact v.elim
   |Return e p=>
    induction e using Bq with
    |some e=>exact aG so (C0 eZ v)
    |none=>
     intro h pv s A E post xi S ok k
     exact wpAny_Return_none (k _ s h (.ret .none) m H (Bp h) S ⟨.none,rfl,by refine AP.n' ?_;rfl⟩ (C0 e_ v))
   |Pass p=>
    intro h pv s A E post xi S ok k
    exact wpAny_Pass (k _ s h .next m H (Bp h) S rfl (C0 f6 v))
   |Break p=>
    intro h pv s A E post xi S ok k
    exact wpAny_Break (k _ s h .brk m H (Bp h) S rfl (C0 f7 v))
   |Continue p=>
    intro h pv s A E post xi S ok k
    exact wpAny_Continue (k _ s h .cont m H (Bp h) S rfl (C0 f8 v))
   |_=>exact v.elim
  ·induction sts using Az with
   |nil=>exact YG (C0 f9 v)
   |cons st r=>
    rw[Fx] at hn
    exact X5 (R:=fun uu m H=>NW X d r sc m H Q) (ihS _ (by k_few) _ _ _ _ _ _ _ so (C0 fb v)) fun m H q=>ihL _ (by k_few) _ _ _ _ _ _ _ so q
theorem T7 {X:Ctx}(sts:List Stmt):cF X sts:=(Vv _).2 sts rfl
end
section
open Classical
def pk (x:Str):List (Str×PV)→Option PV
 |[]=>none
 |(n,p)::r=>bif same n x then some p else pk x r
theorem T8 {x n:Str}{p:PV}{r:List (Str×PV)}:pk x ((n,p)::r)=if n=x then some p else pk x r:=Gw
def RZ:SC→List (Str×PV)→LM
 |[],_=>[]
 |(n, .local)::r,b=>(n,pk n b)::RZ r b
 |(n, .cell)::r,b=>(n,pk n b)::RZ r b
 |_::r,b=>RZ r b
def cG:Fl→(PV→Prop)→Prop
 | .next,K=>K .none
 | .ret p,K=>K p
 |_,_=>False
def aH (Q:QE)(fl:Fl)(_:LM)(H:AH):Prop:=cG fl fun p=>Q p H
def Mo:SC→Bool
 |[]=>true
 |(_, .free)::_=>false
 |_::r=>Mo r
theorem Mp {x:Str}{v:PV}{b:List (Str×PV)}:∀{sc:SC},lk x (RZ sc b)=some v→pk x b=some v
 |[],h=>nomatch h
 |(n,k)::r,h=>by
  have go:lk x ((n,pk n b)::RZ r b)=some v→pk x b=some v:=fun h=>by
   rw[F2] at h
   by_cases c:n=x
   ·rw[if_pos c] at h;rwa [c] at h
   ·rw[if_neg c] at h;exact Mp h
  induction k using Bd with
  |«local»=>exact go h
  |cell=>exact go h
  |_=>exact Mp (sc:=r) h
theorem Eh {x:Str}:∀{sc:SC},Mo sc=true→kd x sc≠some .free
 |[],_,e=>CC e
 |(n,k)::r,h,e=>by
  rw[FJ] at e
  by_cases c:n=x
  ·rw[if_pos c] at e;replace e:=Ai e;subst e;exact FI h
  ·rw[if_neg c] at e
   refine Eh (sc:=r) ?_ e
   induction k using Bd<;>first|exact h|exact FI h
section
variable {h:Heap}{kf:Str→Option NameKind}
theorem Od {x:Str}:∀{names:List Str} {vals:List Ac} {m:Str→Option Ac},x∉names→bindL kf (names.zip vals) m x=m x
 |[],vals,m,_=>by exact rfl
 |n::r,[],m,_=>by exact rfl
 |n::r,v::vs,m,hx=>by
  rw[D7];rw[show bindL kf ((n,v)::r.zip vs) m=bindL kf (r.zip vs) (if kf n=some .local then fun y=>if y=n then some v else m y else m) from rfl];rewrite[Od (fun q=>hx (Af _ q))]
  split
  ·exact if_neg (fun q=>hx (by rw[q];exact Ab ..))
  ·rfl
theorem Oe {x:Str}:∀{names:List Str} {vals:List Ac} {m:Str→Option Ac},x∉names→bindC kf (names.zip vals) m x=m x
 |[],vals,m,_=>by exact rfl
 |n::r,[],m,_=>by exact rfl
 |n::r,v::vs,m,hx=>by
  rw[D7];rw[show bindC kf ((n,v)::r.zip vs) m=bindC kf (r.zip vs) (if kf n=some .local then m else fun y=>if y=n then some v else m y) from rfl];rewrite[Oe (fun q=>hx (Af _ q))]
  split
  ·rfl
  ·exact if_neg (fun q=>hx (by rw[q];exact Ab ..))
theorem Mq {x:Str}{v:PV}(hl:kf x=some .local):∀{names:List Str} {ps:List PV} {vals:List Ac} {m:Str→Option Ac},names.Nodup→AG h ps vals→pk x (names.zip ps)=some v→∃c,bindL kf (names.zip vals) m x=some c∧AP h v c
 |[],ps,vals,m,_,_,e=>CC e
 |n::r,[],vals,m,_,_,e=>CC e
 |n::r,p::ps,[],m,_,rr,_=>by exact AF rr
 |n::r,p::ps,w::ws,m,nd,rr,e=>by
  replace rr:=AG.c rr
  rw[BR] at nd
  rw[D7,T8] at e
  rw[D7];rw[show bindL kf ((n,w)::r.zip ws) m=bindL kf (r.zip ws) (if kf n=some .local then fun y=>if y=n then some w else m y else m) from rfl]
  by_cases c:n=x
  ·subst c
   rw[if_pos rfl] at e
   replace e:=Ai e;subst e
   rw[Od nd.1,if_pos hl,if_pos rfl]
   exact⟨w,rfl,rr.1⟩
  ·rw[if_neg c] at e
   exact Mq hl nd.2 rr.2 e
theorem Mr {x:Str}{v:PV}(hl:kf x=some .cell):∀{names:List Str} {ps:List PV} {vals:List Ac} {m:Str→Option Ac},names.Nodup→AG h ps vals→pk x (names.zip ps)=some v→∃c,bindC kf (names.zip vals) m x=some c∧AP h v c
 |[],ps,vals,m,_,_,e=>CC e
 |n::r,[],vals,m,_,_,e=>CC e
 |n::r,p::ps,[],m,_,rr,_=>by exact AF rr
 |n::r,p::ps,w::ws,m,nd,rr,e=>by
  replace rr:=AG.c rr
  rw[BR] at nd
  rw[D7,T8] at e
  rw[D7];rw[show bindC kf ((n,w)::r.zip ws) m=bindC kf (r.zip ws) (if kf n=some .local then m else fun y=>if y=n then some w else m y) from rfl]
  by_cases c:n=x
  ·subst c
   rw[if_pos rfl] at e
   replace e:=Ai e;subst e
   rw[Oe nd.1,if_neg (by rw[hl];decide),if_pos rfl]
   exact⟨w,rfl,rr.1⟩
  ·rw[if_neg c] at e
   exact Mr hl nd.2 rr.2 e
end
theorem Kx {x:Str}:∀{names:SC} {n:Nat} {acc:List (Str×Addr)},(∃c,acc.lookup x=some c)→∃c,(cellsFrom n names acc).lookup x=some c
 |[],_,_,h=>h
 |(y,k)::r,n,acc,h=>by
  unfold cellsFrom
  split
  ·refine Kx ?_
   rw[DA]
   cases x == y
   ·exact h
   ·exact⟨_,rfl⟩
  ·exact Kx h
theorem EL {x:Str}:∀{names:SC} {n:Nat} {acc:List (Str×Addr)},(x,F_)∈names→∃c,(cellsFrom n names acc).lookup x=some c
 |[],_,_,h=>by simp at h
 |(y,k)::r,n,acc,h=>by
  unfold cellsFrom
  refine Ap (Aq.mp h) (fun e=>?_) fun h=>?_
  ·cases e
   rewrite[if_pos (by rfl)]
   exact Kx ⟨n,by rw[DA];simp⟩
  ·split
   ·exact EL h
   ·exact EL h
section
variable {X:Ctx}{d:Nat}{H:AH}{Q:PV→AH→Prop}{name qual:Str}{params:Arguments}{body:List Stmt}{scope:Scope}{dV kV doc pm cdv ct oc:Ac}{an od:Option Addr}{osl:Array (Option Ac)}{f:Addr}{ps:List PV}
def R6 (X:Ctx)(d:Nat)(f:Addr)(ps:List PV)(H:AH)(Q:PV→AH→Prop):Prop:=
 ∀(h:Heap) (s:Ad) (vs:List Ac) (A:B2) (R:Result→Ad→Prop),X.In h→Own X h H s→AG h ps vs→Lh X d A→
  (∀v s' h₁ p H',BH h h₁→Own X h₁ H' s'→AP h₁ p v→Q p H'→R (.ok (.ret v)) s')→codeAny (model X.prog X.w) A (.call (.ref f) ⟨vs,[]⟩) R s
theorem R6.call (o:R6 X d f ps H Q)(hk:keepIn X.K (.ref f)=true):Bz X d (.raw (.ref f)) ps H Q:=
 ⟨⟨_,rfl,hk⟩,fun h s vs A E post xi O r ok P=>by
  induction vs using Az with
  |nil=>exact AF r
  |cons u vals=>
   replace r:=AG.c r
   cases Ik r.1
   exact IM (o h s vals A _ xi O r.2 ok P)⟩
theorem aI {names:List Str}(ho:X.K.lookup f=some ⟨oc,od, .func (fnOf name qual params body scope dV kV doc pm an cdv ct),osl⟩)(hcd:codeIn X.K cdv qual=true)
  (hbind:∀vals:List Ac,vals.length=ps.length→bindArgs (fnOf name qual params body scope dV kV doc pm an cdv ct) ⟨vals,[]⟩=pure (names.zip vals))(hnd:names.Nodup)
  (hkn:∀x∈names,kd x scope.names=some .local∨kd x scope.names=some .cell)(hfree:Mo scope.names=true)
  (hco:scope.isCoroutine=false)(hgen:scope.isGenerator=false)(hk:scope.kind= .function)
  (v:NW X d body scope.names (RZ scope.names (names.zip ps)) H (aH Q)):R6 X (d+1) f ps H Q:=by
 intro h s vals A R xi O r ok P
 have z:=r.len
 have hr:A.depth<recursionLimit:=by have:=ok.1;have:recursionLimit=1000:=rfl;exact(Al [_,_,_] 0x140503e838112384384250502) ‹_› this
 refine KI (fd:=fnOf name qual params body scope dV kV doc pm an cdv ct) hr (O.keep _ _ (xi.k _ _ ho)) rfl (xi.lim.keeps O.keep) (OL (xi.k.keeps O.keep) hcd) rfl (hbind vals z.symm) rfl
  (fun x hx=>?_) (fun s₁ C=>?_) hco hgen hk
 ·refine Ap (hkn x.1 (Na hx).1) (fun q=>?_) fun q=>?_
  ·exact .inl (Eg.trans q)
  ·refine .inr ⟨Eg.trans q,?_⟩
   refine AI (EL (n:=s.heap.objs.size+1) (acc:=[]) (Hv q)) fun c e=>?_
   rw[e];rfl
 ·generalize hE:callEnvC (fnOf name qual params body scope dV kV doc pm an cdv ct) s.heap.objs.size f=env at C ⊢
  have eL:env.locals=s.heap.objs.size:=by rw[←hE];rfl
  have eS:env.scope=scope:=by rw[←hE];rfl
  have eC:env.cells=cellsFrom (s.heap.objs.size+1) scope.names []:=by rw[←hE];rfl
  have eK:∀x,env.kindOf x=kd x scope.names:=fun x=>by refine(?_:Hx x env.scope.names=_);rw[eS];exact Eg
  have none_of:∀a,s.heap.objs.size≤a→h.get? a=none∧H a=none:=fun a ha=>⟨by
    cases z:h.get? a with
    |none=>rfl
    |some y=>exact absurd (Ax (O.keep _ _ z)) (Dv.mpr ha),by
    cases z:H a with
    |none=>rfl
    |some y=>refine Aw (O.cell _ _ z) fun uu zr=>?_;refine AB zr fun o' g' uu=>?_;clear zr;exact absurd (Ax g') (Dv.mpr ha)⟩
  have O1:Own X h H s₁:=by
   rcases C.toInCall.same with⟨h',tk,rfl⟩
   exact(O.grown xi (s':={s with heap:=h'}) C.toInCall.keep rfl rfl).tok
  have so:ScOk scope.names env true:=⟨fun x e=>(eK x).trans e,fun x e=>⟨rfl,(eK x).trans e⟩,fun x e=> .inr ((eK x).trans e),fun x e=>(eK x).trans e,fun x e=>by
   revert e;refine fun zo=>Ap zo (fun e=>?_) (fun e=>?_)<;>clear zo
   ·rw[eC];exact EL (Hv e)
   ·exact absurd e (Eh hfree)⟩
  have S:St X h env true [] (RZ scope.names (names.zip ps)) H s₁:=by
   refine⟨O1,by rw[eS];exact hk,by rw[←hE];rfl,by rw[←hE];rfl,⟨_,C.toInCall.ns,fun x v e kx=>?_⟩,by rw[eL];exact none_of _ (Ak _),fun x v e kx=>?_,fun uu x kx=>?_,fun uu hq=>nomatch hq⟩
   ·exact Mq kx hnd r (Mp e)
   ·revert kx;refine fun zo=>Ap zo (fun kx=>?_) (fun kx=>?_)<;>clear zo
    ·refine AB (Mr (kf:=env.kindOf) (m:=fun uu=>none) kx hnd r (Mp e)) fun c e1 r1=>?_
     refine AI (so.clk x (.inl ((eK x).symm.trans kx))) fun a ea=>?_
     exact FQ a c ea (by rw[←e1];exact C.cell x a ea) r1
    ·exact absurd ((eK x).symm.trans kx) (Eh hfree)
   ·refine AI (so.clk x (.inl ((eK x).symm.trans kx))) fun a ea=>?_
    have hm:=mem_of_lookup ea
    have ab:=C.above x a hm
    have le:s.heap.objs.size≤a:=by rw[eL] at ab;exact AU ab
    exact Ic a _ ea (C.cell x a ea) ((none_of a le).1) ((none_of a le).2) (Cc ab) (fun y hy ky l2=>hy (name_of_addr C.apart (mem_of_lookup l2) hm)) (fun uu hq=>nomatch hq)
  refine T7 body d env true scope.names _ H _ so v h [] s₁ _ _ _ xi S ⟨by have:=ok.1;refine(?_:A.depth+1+d≤900);exact(Al [_,_] 0x38438140550384384150502) this,by have:=ok.2.1;refine(?_:A.units+3+20*d≤9000);exact(Al [_,_] 0x23284811429318055023284841514290502) this,ok.2.2⟩ fun fv s' h₁ fl m' H' k1 S1 r1 q1=>?_
  induction fl using Mine.Internal.Fl.casesOn with
  |next=>subst r1;exact P .none s' h₁ .none H' k1 S1.own (by refine AP.n' ?_;rfl) q1
  |ret p=>refine AB r1 fun w z1 rw1=>?_;clear r1;subst z1;exact P w s' h₁ p H' k1 S1.own rw1 q1
  |brk=>exact q1.elim
  |cont=>exact q1.elim
end
end
section
open Classical
section
variable {X:Ctx}{d:Nat}{H:AH}{Q:PV→AH→Prop}
theorem Vw {A:B2}{C:Addr}{rest:List Ac}(ok:Lh X (d+1) A):Lh X d (A.under (.builtin "type.__call__" ⟨.ref C::rest,[]⟩)):=by
 have w:(IL "type.__call__" ⟨.ref C::rest,[]⟩).weight=1:=rfl
 have u:(IL "type.__call__" ⟨.ref C::rest,[]⟩).cUnits=1:=rfl
 refine DF ok fun a b c=>?_;clear ok
 refine⟨?_,?_,c⟩
 ·refine(?_:A.depth+_+d≤900);rw[w];exact(Al [_,_] 0x38438140550384384150502) a
 ·refine(?_:A.units+_+20*d≤9000);rw[u];exact(Al [_,_] 0x232848114294055023284841514290502) b
theorem Nj {C fI:Addr}{ps:List PV}(hm:makesIn X.K C=true)(hi:findIn X.K (.ref C) "__init__"=some (some (.ref fI)))(hf:typeIn X.K (.ref fI)=some (.type "function"))(hkp:keepIn X.K (.ref C)=true)
  (v:∀a dd,H dd=none→R6 X d fI (.inst C a dd::ps) (H.set dd (.attrs [])) fun p H'=>p= .none∧Q (.inst C a dd) H'):Bz X (d+1) (.raw (.ref C)) ps H Q:=by
 refine⟨⟨_,rfl,hkp⟩,fun h s vs A E post xi O r ok P=>?_⟩
 induction vs using Az with
 |nil=>exact AF r
 |cons u vals=>
  replace r:=AG.c r
  cases Ik r.1
  refine(?_:wpAny _ _ (call (.ref C) vals) _ _ _)
  refine IM ?_
  rcases s with⟨hh,g,dr,t,os⟩
  have xs:=xi.k.keeps O.keep
  refine make_core (makes_of xs hm) (looks_findIn xs hi) (fun self=>bind_fn xs self hf) (.inl rfl) ?_
  have O1:=O.pushT (o:=emptyDict) (po:= .attrs []) ⟨[],0,rfl,trivial,nofun⟩
  have O2:=O1.push (instObj C hh.objs.size)
  have hz:(hh.push emptyDict).objs.size=hh.objs.size+1:=B3 ..
  have gI:((hh.push emptyDict).push (instObj C hh.objs.size)).get? (hh.objs.size+1)=some (instObj C hh.objs.size):=by rw[←hz];exact Ar _ rfl
  have none_of:H (hh.objs.size+1)=none:=by
   cases z:H (hh.objs.size+1) with
   |none=>rfl
   |some y=>refine Aw (O.cell _ _ z) fun uu zr=>?_;refine AB zr fun o' g' uu=>?_;clear zr;exact absurd (Ax g') (Dv.mpr (BM _))
  have kf:=O2.keepsFrz
  have V:=v (hh.objs.size+1) hh.objs.size O.fresh
  have rI:AP (Uv {heap:=(hh.push emptyDict).push (instObj C hh.objs.size),gens:=g,drawn:=dr,toks:=t,os:=os} (H.set hh.objs.size (.attrs []))) (.inst C (hh.objs.size+1) hh.objs.size) (.ref (hh.objs.size+1)):=by
   refine AP.x' ?_
   exact⟨rfl,DS _ ((AH.set_ne (I6 _)).trans none_of) gI⟩
  refine V _ {heap:=(hh.push emptyDict).push (instObj C hh.objs.size),gens:=g,drawn:=dr,toks:=t,os:=os} (.ref (hh.objs.size+1)::vals) _ _ (xi.keeps kf) O2.freeze (by refine AG.d ?_;exact⟨rI,AG.keeps kf _ r.2⟩) (Vw ok) fun v s' h₁ p H' k1 O' r' q'=>?_
  revert q';refine fun zq=>Aw zq fun z0 q'=>?_;clear zq;subst z0
  exact⟨Gx r',P _ s' h₁ _ H' (kf.trans k1) O' (AP.keeps k1 _ rI) q'⟩
end
end
section
open Classical
theorem MR (test:LM→AH→QB→Prop)(body:LM→AH→QS→Prop)(n:Nat)(m:LM)(H:AH)(Q:QS):
  Ij test body (n+1) m H Q=test m H (dL body (eM test body n Q) m Q):=rfl
theorem Ms (ok:AH→Prop)(asg:PV→LM→AH→(LM→AH→Prop)→Prop)(elt:List PV→LM→AH→(List PV→LM→AH→Prop)→Prop)(acc:List PV)(m:LM)(H:AH)(K:List PV→LM→AH→Prop):
  Fu ok asg elt [] acc m H K=(ok H∧K acc m H):=rfl
theorem Ky (ok:AH→Prop)(asg:PV→LM→AH→(LM→AH→Prop)→Prop)(elt:List PV→LM→AH→(List PV→LM→AH→Prop)→Prop)(x:PV)(xs acc:List PV)(m:LM)(H:AH)(K:List PV→LM→AH→Prop):
  Fu ok asg elt (x::xs) acc m H K=(ok H∧asg x m H (Zj elt acc (cB ok asg elt xs K))):=rfl
theorem U5 (ok:AH→Prop)(asg:PV→LM→AH→(LM→AH→Prop)→Prop)(body:LM→AH→(Fl→LM→AH→Prop)→Prop)(m:LM)(H:AH)(Q:Fl→LM→AH→Prop):
  Hh ok asg body [] m H Q=(ok H∧Q .next m H):=rfl
theorem R_ (ok:AH→Prop)(asg:PV→LM→AH→(LM→AH→Prop)→Prop)(body:LM→AH→(Fl→LM→AH→Prop)→Prop)(x:PV)(xs:List PV)(m:LM)(H:AH)(Q:Fl→LM→AH→Prop):
  Hh ok asg body (x::xs) m H Q=(ok H∧asg x m H fun m H=>body m H fun f m H=>Wz f (Hh ok asg body xs m H Q) (Q .next m H) fun p=>Q (.ret p) m H):=rfl
theorem Of {ok:AH→Prop}{asg:PV→LM→AH→(LM→AH→Prop)→Prop}{elt:List PV→LM→AH→(List PV→LM→AH→Prop)→Prop}(I:LM→AH→Prop)(g:PV→Option PV):
  ∀{items acc:List PV} {m:LM} {H:AH} {K:List PV→LM→AH→Prop},acc.length+items.length≤100000→I m H→(∀m H,I m H→ok H)→
   (∀x∈items,∀acc m H K,acc.length≤100000→I m H→(∀m' H',I m' H'→K (acc++(g x).toList) m' H')→asg x m H (Zj elt acc K))→
   (∀m H,I m H→K (acc++items.filterMap g) m H)→Fu ok asg elt items acc m H K
 |[],acc,m,H,K,hl,h0,hok,step,fin=>by rewrite[Ms];exact⟨hok _ _ h0,by simpa using fin _ _ h0⟩
 |x::xs,acc,m,H,K,hl,h0,hok,step,fin=>by
  rewrite[Ky]
  simp only[AQ] at hl
  refine⟨hok _ _ h0,step x (Ab ..) acc m H _ (by exact(Al [_,_] 0x186a05800186a0584150502) hl) h0 fun m' H' h'=>?_⟩
  refine Of I g (by simp only[AC];cases g x<;>simp<;>(first|exact(Al [_,_] 0x186a058140550186a0584150502) hl|exact AU ‹_›)) h' hok (fun y hy=>step y (Af _ hy)) fun m H hI=>?_
  have:=fin m H hI
  rw[BE] at this
  cases e:g x with
  |none=>rw[e] at this;simpa using this
  |some z=>rw[e] at this;simpa using this
theorem CZ {ok:AH→Prop}{asg:PV→LM→AH→(LM→AH→Prop)→Prop}{elt:List PV→LM→AH→(List PV→LM→AH→Prop)→Prop}(I:LM→AH→Prop)(g:PV→PV)
  {items:List PV}{m:LM}{H:AH}{K:List PV→LM→AH→Prop}(hl:items.length≤100000)(h0:I m H)(hok:∀m H,I m H→ok H)
  (step:∀x∈items,∀acc m H K,acc.length≤100000→I m H→(∀m' H',I m' H'→K (acc++[g x]) m' H')→asg x m H (Zj elt acc K))
  (fin:∀m H,I m H→K (items.map g) m H):Fu ok asg elt items [] m H K:=
 Of I (fun x=>some (g x)) (by simpa using hl) h0 hok (fun x hx acc m H K ha hI k=>step x hx acc m H K ha hI fun m' H' h'=>by simpa using k m' H' h') fun m H hI=>by
  have:=fin m H hI
  simpa [List.filterMap_eq_map'] using this
theorem Ex {ok:AH→Prop}{asg:PV→LM→AH→(LM→AH→Prop)→Prop}{body:LM→AH→(Fl→LM→AH→Prop)→Prop}(I:List PV→LM→AH→Prop){Q:Fl→LM→AH→Prop}{all:List PV}
  (hok:∀pre m H,I pre m H→ok H)
  (step:∀pre x rest m H,all=pre++x::rest→I pre m H→∀K:Fl→LM→AH→Prop,(∀m' H',I (pre++[x]) m' H'→K .next m' H'∧K .cont m' H')→(∀m' H',Q .next m' H'→K .brk m' H')→(∀p m' H',Q (.ret p) m' H'→K (.ret p) m' H')→asg x m H (cC body K))
  (fin:∀m H,I all m H→Q .next m H):∀{rest pre:List PV} {m:LM} {H:AH},all=pre++rest→I pre m H→Hh ok asg body rest m H Q
 |[],pre,m,H,e,h0=>by
  rewrite[U5]
  rw[Di] at e
  exact⟨hok _ _ _ h0,fin m H (e▸h0)⟩
 |x::xs,pre,m,H,e,h0=>by
  rewrite[R_]
  refine⟨hok _ _ _ h0,step pre x xs m H e h0 _ (fun m' H' h'=>?_) (fun m' H' q=>q) fun p m' H' q=>q⟩
  have:=Ex I hok step fin (rest:=xs) (pre:=pre++[x]) (by rw[e];simp) h'
  exact⟨this,this⟩
def S0:List Str→Bool
 |[]=>true
 |x::r=> !r.contains x&&S0 r
theorem Mt:∀{l:List Str},S0 l=true→l.Nodup
 |[],_=>CN
 |x::r,h=>by
  have h:=Ae.mp h
  refine BR.mpr ⟨fun m=>?_,Mt h.2⟩
  have:=h.1
  simp[m] at this
def R7 (names:List Str)(scope:Scope):Bool:=
 S0 names&&(names.all fun x=>kd x scope.names == some .local||kd x scope.names == some .cell)&&Mo scope.names&& !scope.isCoroutine&& !scope.isGenerator&&scope.kind == .function
section
variable {X:Ctx}{d:Nat}{H:AH}{Q:PV→AH→Prop}{name qual:Str}{params:Arguments}{body:List Stmt}{scope:Scope}{dV kV doc pm cdv ct oc:Ac}{an od:Option Addr}{osl:Array (Option Ac)}{f:Addr}{ps:List PV}
theorem R8 {K:Frag}(hK:X.K=K)(names:List Str)(ho:K.lookup f=some ⟨oc,od, .func (fnOf name qual params body scope dV kV doc pm an cdv ct),osl⟩)(hcd:codeIn K cdv qual=true)(hok:R7 names scope=true)
  (hbind:∀vals:List Ac,vals.length=ps.length→bindArgs (fnOf name qual params body scope dV kV doc pm an cdv ct) ⟨vals,[]⟩=pure (names.zip vals))
  (v:NW X d body scope.names (RZ scope.names (names.zip ps)) H (aH Q)):R6 X (d+1) f ps H Q:=by
 simp only[R7,D1,LL,Ia,IU,beq_iff_eq] at hok
 refine Aw hok fun z0 h6=>?_;clear hok;revert z0;refine fun zq=>Aw zq fun z0 h5=>?_;clear zq;revert z0;refine fun zq=>Aw zq fun z0 h4=>?_;clear zq;revert z0;refine fun zq=>Aw zq fun z0 h3=>?_;clear zq;refine Aw z0 fun h1 h2=>?_;clear z0
 subst hK
 exact aI ho hcd hbind (Mt h1) h2 h3 h4 h5 h6 v
theorem CU {K:Frag}(hK:X.K=K)(names:List Str)(ho:K.lookup f=some ⟨oc,od, .func (fnOf name qual params body scope dV kV doc pm an cdv ct),osl⟩)(hcd:codeIn K cdv qual=true)(hok:R7 names scope=true)
  (hbind:∀vals:List Ac,vals.length=ps.length→bindArgs (fnOf name qual params body scope dV kV doc pm an cdv ct) ⟨vals,[]⟩=pure (names.zip vals))
  (v:NW X d body scope.names (RZ scope.names (names.zip ps)) H (aH Q)):Bz X (d+1) (.raw (.ref f)) ps H Q:=
 (R8 hK names ho hcd hok hbind v).call (by subst hK;unfold keepIn;dsimp only;rw[ho];rfl)
end
end
section
open Classical
structure TB0 where
 g:Str→Option PV
 m:Addr→Str→Option Addr
 f:Addr→Str→Bool
structure XT (X:Ctx)(T:TB0):Prop where
 g:∀x v,T.g x=some v→X.glob x=some v
 m:∀C n f,T.m C n=some f→X.meth C n=some f
 f:∀C n,T.f C n=true→X.fld C n=true
inductive V where
 |q (p:PV)|b (c:Bool)|l (ps:List PV)|m (m:LM)|f (f:Fl)(m:LM)
abbrev KV:=V→AH→Prop
def vq (K:QE):KV
 | .q p,H=>K p H
 |_,_=>False
def vb (K:QB):KV
 | .b p,H=>K p H
 |_,_=>False
def vl (K:QL):KV
 | .l p,H=>K p H
 |_,_=>False
def vm (K:LM→AH→Prop):KV
 | .m p,H=>K p H
 |_,_=>False
def vf (K:QS):KV
 | .f f m,H=>K f m H
 |_,_=>False
abbrev qq (κ:KV):QE:=fun p H=>κ (.q p) H
abbrev bb (κ:KV):QB:=fun p H=>κ (.b p) H
abbrev ll (κ:KV):QL:=fun p H=>κ (.l p) H
abbrev mm (κ:KV):LM→AH→Prop:=fun p H=>κ (.m p) H
abbrev ff (κ:KV):QS:=fun f m H=>κ (.f f m) H
inductive Fr where
 |o (Q:QE)|ob (Q:QB)|ol (Q:QL)|om (Q:LM→AH→Prop)|os (Q:QS)
 |b1 (op:Operator)(r:Expr)(sc:SC)(m:LM)
 |b2 (op:Operator)(a:PV)
 |un (op:UnaryOp)
 |ch (ops:List CmpOp)(rs:List Expr)(sc:SC)(m:LM)
 |mt (n:Str)(as:List Expr)(sc:SC)(m:LM)
 |gt (n:Str)
 |i1 (i:Expr)(sc:SC)(m:LM)
 |i2 (p:PV)
 |co (elt t:Expr)(ifs:List Expr)(sc:SC)(m:LM)
 |es (r:List Expr)(sc:SC)(m:LM)
 |cs (p:PV)
 |bo (op:BoolOp)(r:List Expr)(sc:SC)(m:LM)
 |bp (op:BoolOp)(r:List Expr)(sc:SC)(m:LM)(p:PV)
 |c1 (op:CmpOp)(a:PV)
 |c2 (op:CmpOp)(a:PV)(ops:List CmpOp)(rs:List Expr)(sc:SC)(m:LM)
 |c3 (ops:List CmpOp)(rs:List Expr)(b:PV)(sc:SC)(m:LM)
 |tr
 |sa (n:Str)(p:PV)(m:LM)
 |si (i:Expr)(sc:SC)(p:PV)(m:LM)
 |s2 (q p:PV)(m:LM)
 |dr (m:LM)
 |as_ (t:Expr)(sc:SC)(m:LM)
 |rt (m:LM)
 |fo (t:Expr)(b:List Stmt)(sc:SC)(m:LM)
 |ie (b o:Expr)(sc:SC)(m:LM)
 |qb
 |ng
 |ts (op:BoolOp)(r:List Expr)(sc:SC)(m:LM)
 |fi (b o:List Stmt)(sc:SC)(m:LM)
 |e2 (elt:Expr)(sc:SC)(acc:List PV)(m:LM)(K:List PV→LM→AH→Prop)
 |ac (acc:List PV)(m:LM)(K:List PV→LM→AH→Prop)
 |ca (p:PV)
 |ci (f:Addr)(p:PV)
 |ml (mm:Meth)(l:Addr)
 |md (mm:Meth)(l:Addr)
 |ls
 |tu
 |sw (ts:List Expr)(sc:SC)(m:LM)
 |sp (x:Str)
 |ta (ts:List Expr)(sc:SC)(ps:List PV)
 |nx
 |sq (r:List Stmt)(sc:SC)
 |ga (elt:Expr)(ifs:List Expr)(sc:SC)(acc:List PV)(K:List PV→LM→AH→Prop)
 |wb (b:List Stmt)(sc:SC)(Q:QS)
inductive HT where
 |gt (n:Str)
 |st (d:Addr)(n:Str)(v:PV)(m:LM)
 |me (p:PV)(n:Str)(as:List Expr)(sc:SC)(m:LM)(f:Addr)
 |mc (l:Addr)(mm:Meth)(as:List Expr)(sc:SC)(m:LM)
 |ml (mm:Meth)(l:Addr)(ps:List PV)
 |md (mm:Meth)(l:Addr)(ps:List PV)
 |it (i:PV)
 |si (l:Addr)(i v:PV)(m:LM)
 |ln
 |bi (b:BI)
 |ic (a:Addr)(elt t:Expr)(ifs:List Expr)(sc:SC)(m:LM)
 |fo (a:Addr)(t:Expr)(b:List Stmt)(sc:SC)(m:LM)
 |un (es:List Expr)(sc:SC)(m:LM)
 |in_ (a:PV)
 |ni (a:PV)
 |sl (s:Sl)
 |ex (l:Addr)(vs:List PV)
inductive C where
 |E (e:Expr)(sc:SC)(m:LM)
 |Es (es:List Expr)(sc:SC)(m:LM)
 |Bo (op:BoolOp)(es:List Expr)(sc:SC)(m:LM)
 |Ch (ops:List CmpOp)(rs:List Expr)(a:PV)(sc:SC)(m:LM)
 |T (e:Expr)(sc:SC)(m:LM)
 |Ts (op:BoolOp)(es:List Expr)(sc:SC)(m:LM)
 |Is (es:List Expr)(sc:SC)(m:LM)
 |As (t:Expr)(sc:SC)(p:PV)(m:LM)
 |Ass (ts:List Expr)(sc:SC)(ps:List PV)(m:LM)
 |S (s:Stmt)(sc:SC)(m:LM)
 |Ss (b:List Stmt)(sc:SC)(m:LM)
 |v (x:V)
 |hp (a:Addr)(t:HT)
 |ho (o:Option PO)(t:HT)
 |call (v:Ac)(ps:List PV)
 |cmp (op:CmpOp)(a b:PV)
 |bin (op:Operator)(a b:PV)
 |bi (b:BI)(ps:List PV)
 |it (p i:PV)
 |sit (q j p:PV)(m:LM)
 |sl (s:Sl)(p:PV)
 |co (elt t:Expr)(ifs:List Expr)(sc:SC)(m:LM)(src:PV)
 |fo (t:Expr)(b:List Stmt)(sc:SC)(m:LM)(src:PV)
 |tu (es:List Expr)(sc:SC)(m:LM)(ps:List PV)
 |mt (n:Str)(as:List Expr)(sc:SC)(m:LM)(p:PV)
 |nl (ps:List PV)
inductive G where
 |go (c:C)(st:List Fr)(H:AH)
 |no
def G.ctorIdx (x:G):Nat:=G.casesOn x (fun _ _ _=>0) 1
section
variable (X:Ctx)(d:Nat)
def br (κ:KV):Fr→KV
 | .o Q=>vq Q
 | .ob Q=>vb Q
 | .ol Q=>vl Q
 | .om Q=>vm Q
 | .os Q=>vf Q
 | .b1 op r sc m=>vq (d9 X d op r sc m (qq κ))
 | .b2 op a=>vq (d8 op a (qq κ))
 | .un op=>vq (kU op (qq κ))
 | .ch ops rs sc m=>vq (cw X d ops rs sc m (bb κ))
 | .mt n as sc m=>vq (Vl X d n as sc m (qq κ))
 | .gt n=>vq (dg X n (qq κ))
 | .i1 i sc m=>vq (bl X d i sc m (qq κ))
 | .i2 p=>vq (cx p (qq κ))
 | .co elt t ifs sc m=>vq (dj X d elt t ifs sc m (qq κ))
 | .es r sc m=>vq (du X d r sc m (ll κ))
 | .cs p=>vl (XG p (ll κ))
 | .bo op r sc m=>vq (dw X d op r sc m (qq κ))
 | .bp op r sc m p=>vb fun c H=>ar X d op r sc m (qq κ) p H c
 | .c1 op a=>vq (dy X op a (bb κ))
 | .c2 op a ops rs sc m=>vq (dA X d op a ops rs sc m (bb κ))
 | .c3 ops rs b sc m=>vb fun c H=>dz X d ops rs b sc m H (bb κ) c
 | .tr=>vq (cy (bb κ))
 | .sa n p m=>vq (dF X n p m (mm κ))
 | .si i sc p m=>vq (dG X d i sc p m (mm κ))
 | .s2 q p m=>vq (au q p m (mm κ))
 | .dr m=>vq (dH m (ff κ))
 | .as_ t sc m=>vq (dI X d t sc m (ff κ))
 | .rt m=>vq (dK m (ff κ))
 | .fo t b sc m=>vq (dJ X d t b sc m (ff κ))
 | .ie b o sc m=>vb (bj X d b o sc m (qq κ))
 | .qb=>vb (db (qq κ))
 | .ng=>vb (dC (bb κ))
 | .ts op r sc m=>vb (dE X d op r sc m (bb κ))
 | .fi b o sc m=>vb (bm X d b o sc m (ff κ))
 | .e2 elt sc acc m K=>vb (XF X d elt sc acc m K)
 | .ac acc m K=>vq (aq acc m K)
 | .ca p=>vl (XE X d p (qq κ))
 | .ci f p=>vl (cY X d f p (qq κ))
 | .ml mm l=>vl (b9 mm l (qq κ))
 | .md mm l=>vl (ba mm l (qq κ))
 | .ls=>vl (Yn (qq κ))
 | .tu=>vl (ao (qq κ))
 | .sw ts sc m=>vl (eJ X d ts sc m (ff κ))
 | .sp x=>vl (cb x (qq κ))
 | .ta ts sc ps=>vm (av X d ts sc ps (mm κ))
 | .nx=>vm (cz (ff κ))
 | .sq r sc=>vf (aw X d r sc (ff κ))
 | .ga elt ifs sc acc K=>vm (Zj (Qa X d elt ifs sc) acc K)
 | .wb b sc Q=>vm (cC (Ws X d b sc) Q)
def ds:List Fr→KV
 |[]=>fun uu uu=>False
 |f::st=>br X d (ds st) f
def dh (H:AH)(κ:KV)(o:Option PO):HT→Prop
 | .gt n=>oA o (ZD n (kP (qq κ) H))
 | .st dd n v m=>oA o (ZE dd n v H (mm κ m))
 | .me p n as sc m f=>oA o (cZ X d p n (NX X d as sc m H) (qq κ) f)
 | .mc l mt as sc m=>Ni o (bZ l mt (NX X d as sc m H) (qq κ)) (b_ l mt (NX X d as sc m H) (qq κ))
 | .ml mt l ps=>Ni o (c_ mt l ps H (qq κ)) d5
 | .md mt l ps=>Ni o d4 (d3 mt l ps H (qq κ))
 | .it i=>Ni o (fun vs=>vI i (UJ (kP (qq κ) H) vs)) (Xq i (kP (qq κ) H))
 | .si l i v m=>Ni o (fun vs=>vI i (ZB l v H (mm κ m) vs)) (ZC l i v H (mm κ m))
 | .ln=>Zg o (Y6 (kP (qq κ) H))
 | .bi .sorted=>Zg o (Nu H (qq κ))
 | .bi .sum=>oL o (ZG (kP (qq κ) H))
 | .bi .max=>oL o (ZH (kP (qq κ) H))
 | .bi .tuple=>oL o (Y7 H (qq κ))
 | .bi .set=>oL o (ZI H (qq κ))
 | .bi .dict=>oL o (ZJ H (qq κ))
 | .bi _=>False
 | .ic a elt t ifs sc m=>Ni o (bT a (WU X d elt t ifs sc m H (qq κ))) (bU a (WU X d elt t ifs sc m H (qq κ)))
 | .fo a t b sc m=>Ni o (bT a (WV X d t b sc m H (ff κ))) (bU a (WV X d t b sc m H (ff κ)))
 | .un es sc m=>bq X d es sc m H (mm κ) (N2 o)
 | .in_ a=>Ni o (b7 a (kK (bb κ) H)) (bO a (kK (bb κ) H))
 | .ni a=>Ni o (b7 a (Zy (kK (bb κ) H))) (bO a (Zy (kK (bb κ) H)))
 | .sl s=>Hg s H (qq κ) (N2 o)
 | .ex l vs=>oL o (ZO l vs H (qq κ))
def dc (H:AH)(κ:KV):C→Prop
 | .E e sc m=>vE X d e sc m H (qq κ)
 | .Es es sc m=>Ml X d es sc m H (ll κ)
 | .Bo op es sc m=>vB X d op es sc m H (qq κ)
 | .Ch ops rs a sc m=>Wr X d ops rs a sc m H (bb κ)
 | .T e sc m=>vT X d e sc m H (bb κ)
 | .Ts op es sc m=>XD X d op es sc m H (bb κ)
 | .Is es sc m=>Vj X d es sc m H (bb κ)
 | .As t sc p m=>SY X d t sc p m H (mm κ)
 | .Ass ts sc ps m=>JR X d ts sc ps m H (mm κ)
 | .S s sc m=>vS X d s sc m H (ff κ)
 | .Ss b sc m=>NW X d b sc m H (ff κ)
 | .v x=>κ x H
 | .hp a t=>dh X d H κ (H a) t
 | .ho o t=>dh X d H κ o t
 | .call v ps=>Bz X d (.raw v) ps H (qq κ)
 | .cmp op a b=>Qw X op a b H (kK (bb κ) H)
 | .bin op a b=>UI op a b H (qq κ)
 | .bi b ps=>ZN X b ps H (qq κ)
 | .it p i=>P8 i H (kP (qq κ) H) p
 | .sit q j p m=>Ja q j p H (mm κ m)
 | .sl s p=>Ko X s H (qq κ) p
 | .co elt t ifs sc m src=>IF H (WU X d elt t ifs sc m H (qq κ)) src
 | .fo t b sc m src=>IF H (WV X d t b sc m H (ff κ)) src
 | .tu es sc m ps=>bq X d es sc m H (mm κ) (some ps)
 | .mt n as sc m p=>Pb X d n H (NX X d as sc m H) (qq κ) p
 | .nl ps=>Yn (qq κ) ps H
end
section
variable (T:TB0)
def Zl (sc:SC)(m:LM)(x:Str):Option PV:=bif same x "__debug__"||same x "__classdict__" then none else match kd x sc with
 |some .globalImplicit=>T.g x
 |some .local=>lk x m
 |some .cell=>lk x m
 |some .free=>lk x m
 |_=>none
def aJ (o:Option PV)(K:PV→G):G:=match o with
 |some p=>K p
 |none=> .no
def S8 (f:Expr)(as:List Expr)(cp:Pos)(sc:SC)(m:LM)(st:List Fr)(H:AH):G:=match f with
 | .Attribute o n ap=>bif am o as ap cp then .go (.E o sc m) (.mt n as sc m::st) H else .no
 | .Name x _=>bif ZT (kd x sc)&&HX as then aJ (Zl T sc m x) fun p=> .go (.Es as sc m) (.ca p::st) H else .no
 |_=> .no
def dQ (sc:SC)(m:LM)(st:List Fr)(H:AH):Expr→G
 | .Constant c _ _=>match c with
  | .none=> .go (.v (.q .none)) st H
  | .bool b=> .go (.v (.q (.bool b))) st H
  | .int b=> .go (.v (.q (.int b))) st H
  | .str b=> .go (.v (.q (.str b))) st H
  |_=> .no
 | .Name x _=>aJ (Zl T sc m x) fun p=> .go (.v (.q p)) st H
 | .BoolOp op vs _=> .go (.Bo op vs sc m) st H
 | .BinOp l op r _=> .go (.E l sc m) (.b1 op r sc m::st) H
 | .UnaryOp op e _=> .go (.E e sc m) (.un op::st) H
 | .IfExp t b o _=> .go (.T t sc m) (.ie b o sc m::st) H
 | .Compare l ops rs _=> .go (.E l sc m) (.ch ops rs sc m:: .qb::st) H
 | .Call f as [] cp=>S8 T f as cp sc m st H
 | .Attribute o n _=>bif GA o then .go (.E o sc m) (.gt n::st) H else .no
 | .Subscript o i _=> .go (.E o sc m) (.i1 i sc m::st) H
 | .List es _=>bif HX es then .go (.Es es sc m) (.ls::st) H else .no
 | .Tuple es _ _=>bif HX es then .go (.Es es sc m) (.tu::st) H else .no
 | .ListComp elt [⟨t,i,ifs,as⟩] scope _=>bif cv as i scope sc then .go (.E i sc m) (.co elt t ifs scope.names (Dw scope.names++m)::st) H else .no
 |_=> .no
def dR (sc:SC)(m:LM)(st:List Fr)(H:AH):Expr→G
 | .UnaryOp .Not e _=> .go (.T e sc m) (.ng::st) H
 | .BoolOp op vs _=> .go (.Ts op vs sc m) st H
 | .Compare l ops rs _=> .go (.E l sc m) (.ch ops rs sc m::st) H
 | .Name x p=> .go (.E (.Name x p) sc m) (.tr::st) H
 | .Constant c a b=> .go (.E (.Constant c a b) sc m) (.tr::st) H
 | .Call f as [] cp=>S8 T f as cp sc m (.tr::st) H
 |_=> .no
def Vx {α β:Type}:List α→List β→Bool
 |[],[]=>true
 |_::a,_::b=>Vx a b
 |_,_=>false
def aK (sc:SC)(p:PV)(m:LM)(st:List Fr)(H:AH):Expr→G
 | .Name x _=>bif bf (kd x sc) then .go (.v (.m (Wo x p m))) st H else .no
 | .Attribute o n _=>bif GA o then .go (.E o sc m) (.sa n p m::st) H else .no
 | .Subscript o i _=>bif (ED i).isNone then .go (.E o sc m) (.si i sc p m::st) H else .no
 | .Tuple ts _ _=>match p with
  | .tup ps=>bif Vx ts ps&&HX ts then .go (.Ass ts sc ps m) st H else .no
  | .loc a=> .go (.hp a (.un ts sc m)) st H
  |_=> .no
 |_=> .no
def XK (sc:SC)(m:LM)(st:List Fr)(H:AH)(e:Expr):Expr→G
 | .Name x p=>bif NS (.Name x p) e then .go (.E e sc m) (.as_ (.Name x p) sc m::st) H else .no
 | .Attribute o n p=>bif !(xt e == 3) then .go (.E e sc m) (.as_ (.Attribute o n p) sc m::st) H else .no
 | .Subscript o i p=>bif !(xt e == 3) then .go (.E e sc m) (.as_ (.Subscript o i p) sc m::st) H else .no
 | .Tuple ts k p=>match e with
  | .Tuple vs _ _=>bif SZ ts vs sc&&HX vs then .go (.Es vs sc m) (.sw ts.reverse sc m::st) H else .no
  | .Call f as ks cp=> .go (.E (.Call f as ks cp) sc m) (.as_ (.Tuple ts k p) sc m::st) H
  | .Name x q=> .go (.E (.Name x q) sc m) (.as_ (.Tuple ts k p) sc m::st) H
  |_=> .no
 |_=> .no
def dS (sc:SC)(m:LM)(st:List Fr)(H:AH):Stmt→G
 | .Expr (.Call f as ks p) _=> .go (.E (.Call f as ks p) sc m) (.dr m::st) H
 | .Assign [t] e _=>XK sc m st H e t
 | .If t b o _=> .go (.T t sc m) (.fi b o sc m::st) H
 | .For t i b [] _=>bif NR i then .go (.E i sc m) (.fo t b sc m::st) H else .no
 | .Return (some e) _=> .go (.E e sc m) (.rt m::st) H
 | .Return none _=> .go (.v (.f (.ret .none) m)) st H
 | .Pass _=> .go (.v (.f .next m)) st H
 | .Break _=> .go (.v (.f .brk m)) st H
 | .Continue _=> .go (.v (.f .cont m)) st H
 |_=> .no
def dW (p:PV)(st:List Fr)(H:AH):Fr→G
 | .b1 op r sc m=> .go (.E r sc m) (.b2 op p::st) H
 | .b2 op a=> .go (.bin op a p) st H
 | .un op=>match op,p with
  | .Not, .bool b=> .go (.v (.q (.bool (!b)))) st H
  | .Not, .none=> .go (.v (.q (.bool true))) st H
  | .USub, .int i=> .go (.v (.q (.int (-i)))) st H
  |_,_=> .no
 | .ch ops rs sc m=> .go (.Ch ops rs p sc m) st H
 | .mt n as sc m=> .go (.mt n as sc m p) st H
 | .gt n=>match p with
  | .inst C _ dd=>bif T.f C n then .go (.hp dd (.gt n)) st H else .no
  |_=> .no
 | .i1 i sc m=>match ED i with
  |some sl=> .go (.sl sl p) st H
  |none=> .go (.E i sc m) (.i2 p::st) H
 | .i2 o=> .go (.it o p) st H
 | .co elt t ifs sc m=> .go (.co elt t ifs sc m p) st H
 | .es r sc m=> .go (.Es r sc m) (.cs p::st) H
 | .bo op r sc m=>match p with
  | .bool b=> .go (.v (.b b)) (.bp op r sc m (.bool b)::st) H
  | .none=> .go (.v (.b false)) (.bp op r sc m .none::st) H
  |_=> .no
 | .c1 op a=> .go (.cmp op a p) st H
 | .c2 op a ops rs sc m=> .go (.cmp op a p) (.c3 ops rs p sc m::st) H
 | .tr=>match p with
  | .bool b=> .go (.v (.b b)) st H
  | .none=> .go (.v (.b false)) st H
  |_=> .no
 | .sa n v m=>match p with
  | .inst C _ dd=>bif T.f C n then .go (.hp dd (.st dd n v m)) st H else .no
  |_=> .no
 | .si i sc v m=> .go (.E i sc m) (.s2 p v m::st) H
 | .s2 q v m=> .go (.sit q p v m) st H
 | .dr m=> .go (.v (.f .next m)) st H
 | .as_ t sc m=> .go (.As t sc p m) (.nx::st) H
 | .rt m=> .go (.v (.f (.ret p) m)) st H
 | .fo t b sc m=> .go (.fo t b sc m p) st H
 |_=> .no
def cH (c:Bool)(st:List Fr)(H:AH):Fr→G
 | .ie b o sc m=> .go (.E (bif c then b else o) sc m) st H
 | .bp op r sc m p=>bif (op == .Or) == c then .go (.v (.q p)) st H else .go (.Bo op r sc m) st H
 | .c3 ops rs b sc m=>bif c then .go (.Ch ops rs b sc m) st H else .go (.v (.b false)) st H
 | .ts op r sc m=>bif (op == .Or) == c then .go (.v (.b c)) st H else .go (.Ts op r sc m) st H
 | .fi b o sc m=> .go (.Ss (bif c then b else o) sc m) st H
 | .e2 elt sc acc m K=>bif c then .go (.E elt sc m) (.ac acc m K::st) H else .no
 |_=> .no
def dX (ps:List PV)(st:List Fr)(H:AH):Fr→G
 | .cs p=> .go (.v (.l (p::ps))) st H
 | .ca p=>match p with
  | .bi b=> .go (.bi b ps) st H
  | .raw v=> .go (.call v ps) st H
  |_=> .no
 | .ci f p=> .go (.call (.ref f) (p::ps)) st H
 | .ml mt l=> .go (.hp l (.ml mt l ps)) st H
 | .md mt l=> .go (.hp l (.md mt l ps)) st H
 | .ls=> .go (.nl ps) st H
 | .tu=> .go (.v (.q (.tup ps))) st H
 | .sw ts sc m=> .go (.Ass ts sc ps.reverse m) (.nx::st) H
 |_=> .no
def dY (st:List Fr)(H:AH):V→G
 | .q p=>match st with
  |f::r=>dW T p r H f
  |[]=> .no
 | .b c=>match st with
  | .qb::r=> .go (.v (.q (.bool c))) r H
  | .ng::r=> .go (.v (.b (!c))) r H
  |_=> .no
 | .l ps=>match st with
  |f::r=>dX ps r H f
  |[]=> .no
 | .m m=>match st with
  | .ta ts sc ps::r=> .go (.Ass ts sc ps m) r H
  | .nx::r=> .go (.v (.f .next m)) r H
  | .ga elt ifs sc acc K::r=> .go (.Is ifs sc m) (.e2 elt sc acc m K::r) H
  | .wb b sc Q::r=> .go (.Ss b sc m) (.os Q::r) H
  |_=> .no
 | .f f m=>match st with
  | .sq b sc::r=>match f with
   | .next=> .go (.Ss b sc m) r H
   | .ret p=> .go (.v (.f (.ret p) m)) r H
   | .brk=> .go (.v (.f .brk m)) r H
   | .cont=> .go (.v (.f .cont m)) r H
  |_=> .no
def dZ (o:PO)(st:List Fr)(H:AH):HT→G
 | .gt n=>match o with
  | .attrs es=>aJ (Uw n es) fun p=> .go (.v (.q p)) st H
  |_=> .no
 | .st dd n v m=>match o with
  | .attrs es=>bif Qx es 100&&HP v then .go (.v (.m m)) st (H.set dd (.attrs (TA n v es))) else .no
  |_=> .no
 | .me p n as sc m f=>match o with
  | .attrs es=>bif (Uw n es).isNone then .go (.Es as sc m) (.ci f p::st) H else .no
  |_=> .no
 | .mc l mt as sc m=>match o with
  | .list _=>bif UQ mt then .go (.Es as sc m) (.ml mt l::st) H else .no
  | .dict _ _=>bif UR mt then .go (.Es as sc m) (.md mt l::st) H else .no
  |_=> .no
 | .ml mt l ps=>match o with
  | .list vs=>match mt with
   | .extend=>match ps with
    |[.loc b]=> .go (.hp b (.ex l vs)) st H
    |_=> .no
   |_=> .no
  |_=> .no
 |_=> .no
def XL (st:List Fr)(H:AH)(a b:PV):Operator→G
 | .Add=>match a,b with
  | .int x, .int y=> .go (.v (.q (.int (x+y)))) st H
  |_,_=> .no
 | .Sub=>match a,b with
  | .int x, .int y=> .go (.v (.q (.int (x-y)))) st H
  |_,_=> .no
 |_=> .no
def d_ (st:List Fr)(H:AH)(f:Bool→Bool):PV→G
 | .none=> .go (.v (.b (f true))) st H
 | .tup _=> .go (.v (.b (f false))) st H
 | .int _=> .go (.v (.b (f false))) st H
 | .loc _=> .go (.v (.b (f false))) st H
 |_=> .no
def XM (st:List Fr)(H:AH)(a b:PV):CmpOp→G
 | .Lt=>match a,b with
  | .int x, .int y=> .go (.v (.b (decide (x<y)))) st H
  |_,_=> .no
 | .LtE=>match a,b with
  | .int x, .int y=> .go (.v (.b (decide (x≤y)))) st H
  |_,_=> .no
 | .Gt=>match a,b with
  | .int x, .int y=> .go (.v (.b (decide (y<x)))) st H
  |_,_=> .no
 | .GtE=>match a,b with
  | .int x, .int y=> .go (.v (.b (decide (y≤x)))) st H
  |_,_=> .no
 | .Eq=>match a,b with
  | .int x, .int y=> .go (.v (.b (decide (x=y)))) st H
  |_,_=> .no
 | .NotEq=>match a,b with
  | .int x, .int y=> .go (.v (.b (!decide (x=y)))) st H
  |_,_=> .no
 | .Is=>match b with
  | .none=>d_ st H (fun c=>c) a
  |_=> .no
 | .IsNot=>match b with
  | .none=>d_ st H (fun c=> !c) a
  |_=> .no
 | .In=>match b with
  | .loc l=> .go (.hp l (.in_ a)) st H
  |_=> .no
 | .NotIn=>match b with
  | .loc l=> .go (.hp l (.ni a)) st H
  |_=> .no
def aL (st:List Fr)(H:AH)(ps:List PV):BI→G
 | .len=>match ps with
  |[.loc l]=> .go (.hp l .ln) st H
  |_=> .no
 | .sorted=>match ps with
  |[.loc l]=> .go (.hp l (.bi .sorted)) st H
  |_=> .no
 | .sum=>match ps with
  |[.loc l]=> .go (.hp l (.bi .sum)) st H
  |_=> .no
 | .max=>match ps with
  |[.loc l]=> .go (.hp l (.bi .max)) st H
  |_=> .no
 | .set=>match ps with
  |[.loc l]=> .go (.hp l (.bi .set)) st H
  |_=> .no
 | .dict=>match ps with
  |[.loc l]=> .go (.hp l (.bi .dict)) st H
  |_=> .no
 | .int=>match ps with
  |[.int i]=> .go (.v (.q (.int i))) st H
  |[.bool c]=> .go (.v (.q (.int (if c then 1 else 0)))) st H
  |_=> .no
 |_=> .no
def Vy (K:Meth→G):Meth→G
 | .append=>K .append
 | .extend=>K .extend
 | .pop=>K .pop
 | .get=>K .get
 | .setdefault=>K .setdefault
 | .other=> .no
def step (st:List Fr)(H:AH):C→G
 | .E e sc m=>dQ T sc m st H e
 | .Es es sc m=>match es with
  |[]=> .go (.v (.l [])) st H
  |e::r=> .go (.E e sc m) (.es r sc m::st) H
 | .Bo op es sc m=>match es with
  |[]=> .no
  |[e]=> .go (.E e sc m) st H
  |e::a::r=> .go (.E e sc m) (.bo op (a::r) sc m::st) H
 | .Ch ops rs a sc m=>match ops,rs with
  |[op],[r]=>bif NR r then .go (.E r sc m) (.c1 op a::st) H else .no
  |op::o2::ops,r::r2::rs=>bif NR r then .go (.E r sc m) (.c2 op a (o2::ops) (r2::rs) sc m::st) H else .no
  |_,_=> .no
 | .T e sc m=>dR T sc m st H e
 | .Ts op es sc m=>match es with
  |[]=> .go (.v (.b (op == .And))) st H
  |e::r=> .go (.T e sc m) (.ts op r sc m::st) H
 | .Is es sc m=>match es with
  |[]=> .go (.v (.b true)) st H
  |[e]=> .go (.T e sc m) st H
  |_=> .no
 | .As t sc p m=>aK sc p m st H t
 | .Ass ts sc ps m=>match ts,ps with
  |[],[]=> .go (.v (.m m)) st H
  |t::ts,p::ps=> .go (.As t sc p m) (.ta ts sc ps::st) H
  |_,_=> .no
 | .S s sc m=>dS sc m st H s
 | .Ss b sc m=>match b with
  |[]=> .go (.v (.f .next m)) st H
  |s::r=> .go (.S s sc m) (.sq r sc::st) H
 | .v x=>dY T st H x
 | .ho o t=>match o with
  |some o=>dZ o st H t
  |none=> .no
 | .cmp op a b=>XM st H a b op
 | .bin op a b=>XL st H a b op
 | .bi b ps=>aL st H ps b
 | .it p i=>match p with
  | .loc l=> .go (.hp l (.it i)) st H
  |_=> .no
 | .sit q j p m=>match q with
  | .loc l=> .go (.hp l (.si l j p m)) st H
  |_=> .no
 | .sl s p=>match p with
  | .loc l=> .go (.hp l (.sl s)) st H
  |_=> .no
 | .fo t b sc m src=>match src with
  | .loc l=> .go (.hp l (.fo l t b sc m)) st H
  |_=> .no
 | .mt n as sc m p=>match p with
  | .inst C a dd=>match T.m C n with
   |some f=> .go (.hp dd (.me (.inst C a dd) n as sc m f)) st H
   |none=> .no
  | .loc l=>Vy (fun mt=> .go (.hp l (.mc l mt as sc m)) st H) (IG n)
  | .str x=>bif same n "isspace" then .go (.Es as sc m) (.sp x::st) H else .no
  |_=> .no
 |_=> .no
def run:Nat→C→List Fr→AH→G
 |0,c,st,H=> .go c st H
 |n+1,c,st,H=>match step T st H c with
  | .go c st H=>run n c st H
  | .no=> .go c st H
def cI:G→G
 | .go c st H=>run T 300 c st H
 | .no=> .no
end
end
section
open Classical
section
variable {X:Ctx}{d:Nat}{T:TB0}
def Rg (X:Ctx)(d:Nat)(P:Prop):G→Prop
 | .go c st H=>dc X d H (ds X d st) c→P
 | .no=>True
theorem Rg.bif {P:Prop}{b:Bool}{g:G}(h:b=true→Rg X d P g):Rg X d P (bif b then g else .no):=by
 induction b using AX with
 |true=>exact h rfl
 |false=>trivial
theorem BU {b:Bool}{P:Prop}(e:b=true)(h:P):gd b P:=by rw[e];exact h
theorem X6 (hx:XT X T){sc:SC}{m:LM}{x:Str}{p:PV}(h:Zl T sc m x=some p):Y5 X sc m x=some p:=by
 unfold Zl at h
 unfold Y5
 cases c:(same x "__debug__"||same x "__classdict__") with
 |true=>rw[c] at h;exact CC h
 |false=>
  rw[c] at h
  cases e:kd x sc with
  |none=>rw[e] at h;exact CC h
  |some k=>
   rw[e] at h
   induction k using Bd<;>first|exact h|exact hx.g _ _ h|cases h
theorem S9 (hx:XT X T){P:Prop}{sc:SC}{m:LM}{x:Str}{g:PV→G}(h:∀p,Y5 X sc m x=some p→Rg X d P (g p)):Rg X d P (aJ (Zl T sc m x) g):=by
 cases e:Zl T sc m x with
 |none=>trivial
 |some p=>exact h p (X6 hx e)
theorem Og {sc:SC}{m:LM}{x:Str}{p:PV}{K:PV→Prop}(e:Y5 X sc m x=some p)(h:K p):FR X sc m x K:=by
 unfold FR
 rw[e]
 exact h
variable (hx:XT X T)(st:List Fr)(H:AH)
include hx
theorem U6 {f:Expr}{as:List Expr}{cp:Pos}{sc:SC}{m:LM}:Rg X d (dc X d H (ds X d st) (.E (.Call f as [] cp) sc m)) (S8 T f as cp sc m st H):=by
 induction f using AA with
 |Attribute o n ap=>exact Rg.bif fun e h=>BU e h
 |Name x p=>exact Rg.bif fun e=>S9 hx fun p q h=>BU e (Og q h)
 |_=>trivial
theorem YH (e:Expr)(sc:SC)(m:LM):Rg X d (dc X d H (ds X d st) (.E e sc m)) (dQ T sc m st H e):=by
 induction e using AA with
 |Constant c a b=>induction c using Gj<;>first|exact fun h=>h|trivial
 |Name x p=>exact S9 hx fun p q h=>Og q h
 |BoolOp op vs p=>exact fun h=>h
 |BinOp l op r p=>exact fun h=>h
 |UnaryOp op e p=>exact fun h=>h
 |IfExp t b o p=>exact fun h=>h
 |Compare l ops rs p=>exact fun h=>h
 |Call f as ks p=>
  induction ks using Az with
  |nil=>exact U6 hx st H
  |cons=>trivial
 |Attribute o n p=>exact Rg.bif fun e h=>BU e h
 |Subscript o i p=>exact fun h=>h
 |List es p=>exact Rg.bif fun e h=>BU e h
 |Tuple es k p=>exact Rg.bif fun e h=>BU e h
 |ListComp elt gs sco p=>
  match gs with
  |[⟨t,i,ifs,as⟩]=>exact Rg.bif fun e h=>BU e h
  |[]=>trivial
  |⟨t,i,ifs,as⟩::_::_=>trivial
 |_=>trivial
theorem YI (e:Expr)(sc:SC)(m:LM):Rg X d (dc X d H (ds X d st) (.T e sc m)) (dR T sc m st H e):=by
 induction e using AA with
 |Constant c a b=>exact fun h=>h
 |Name x p=>exact fun h=>h
 |BoolOp op vs p=>exact fun h=>h
 |UnaryOp op e p=>induction op using Da<;>first|exact fun h=>h|trivial
 |Compare l ops rs p=>exact fun h=>h
 |Call f as ks p=>
  induction ks using Az with
  |nil=>
   induction f using AA with
   |Attribute o n ap=>exact Rg.bif fun e h=>BU e h
   |Name x p=>exact Rg.bif fun e=>S9 hx fun p q h=>BU e (Og q h)
   |_=>trivial
  |cons=>trivial
 |_=>trivial
omit hx in
theorem U7 {P:Meth→Prop}{K:Meth→G}(h:∀m,Rg X d (P m) (K m))(m:Meth):Rg X d (P m) (Vy K m):=by
 induction m using Mine.Internal.Meth.casesOn<;>first|exact h _|trivial
omit hx in
theorem Pu {α β:Type}:∀{a:List α} {b:List β},Vx a b=true→a.length=b.length
 |[],[],_=>rfl
 |[],_::_,h=>nomatch h
 |_::_,[],h=>nomatch h
 |_::a,_::b,h=>congrArg (· +1) (Pu (a:=a) (b:=b) h)
omit hx in
theorem X7 (t:Expr)(sc:SC)(p:PV)(m:LM):Rg X d (dc X d H (ds X d st) (.As t sc p m)) (aK sc p m st H t):=by
 induction t using AA with
 |Name x a=>exact Rg.bif fun e h=>BU e h
 |Attribute o n a=>exact Rg.bif fun e h=>BU e h
 |Subscript o i a=>exact Rg.bif fun e h=>BU e h
 |Tuple ts k a=>
  induction p using Mine.Internal.PV.casesOn with
  |tup ps=>exact Rg.bif fun e h=>⟨Pu (Ae.mp e).1,BU (Ae.mp e).2 h⟩
  |loc a=>exact fun h=>h
  |_=>trivial
 |_=>trivial
omit hx in
theorem Vz (t e:Expr)(sc:SC)(m:LM)(q:Pos):Rg X d (dc X d H (ds X d st) (.S (.Assign [t] e q) sc m)) (XK sc m st H e t):=by
 induction t using AA with
 |Name x a=>exact Rg.bif fun z h=>BU z h
 |Attribute o n a=>exact Rg.bif fun z h=>BU z h
 |Subscript o i a=>exact Rg.bif fun z h=>BU z h
 |Tuple ts k a=>
  induction e using AA with
  |Tuple vs b c=>exact Rg.bif fun e h=>BU e h
  |Call f as ks p=>exact fun h=>h
  |Name x p=>exact fun h=>h
  |_=>trivial
 |_=>trivial
theorem YJ (s:Stmt)(sc:SC)(m:LM):Rg X d (dc X d H (ds X d st) (.S s sc m)) (dS sc m st H s):=by
 induction s using KO with
 |Expr e p=>
  induction e using AA with
  |Call f as ks q=>exact fun h=>h
  |_=>trivial
 |Assign ts e q=>
  match ts with
  |[t]=>exact Vz st H t e sc m q
  |[]=>trivial
  |_::_::_=>trivial
 |If t b o p=>exact fun h=>h
 |For t i b o p=>
  induction o using Az with
  |nil=>exact Rg.bif fun e h=>BU e h
  |cons=>trivial
 |Return e p=>
  induction e using Bq with
  |none=>exact fun h=>h
  |some e=>exact fun h=>h
 |Pass p=>exact fun h=>h
 |Break p=>exact fun h=>h
 |Continue p=>exact fun h=>h
 |_=>trivial
theorem YK (p:PV)(f:Fr):Rg X d (br X d (ds X d st) f (.q p) H) (dW T p st H f):=by
 induction f using Mine.Internal.Fr.casesOn with
 |un op=>
  induction op using Da with
  |Not=>induction p using Mine.Internal.PV.casesOn<;>first|exact fun h=>h|trivial
  |USub=>induction p using Mine.Internal.PV.casesOn<;>first|exact fun h=>h|trivial
  |_=>trivial
 |gt n=>
  induction p using Mine.Internal.PV.casesOn with
  |inst C a dd=>exact Rg.bif fun e h=>BU (hx.f _ _ e) h
  |_=>trivial
 |i1 i sc m=>
  refine(?_:Rg X d (di X d i sc m (qq (ds X d st)) p H (ED i)) (match ED i with|some sl=>_|none=>_))
  cases ED i with
  |some sl=>exact fun h=>h
  |none=>exact fun h=>h
 |bo op r sc m=>induction p using Mine.Internal.PV.casesOn<;>first|exact fun h=>h|trivial
 |tr=>induction p using Mine.Internal.PV.casesOn<;>first|exact fun h=>h|trivial
 |sa n v m=>
  induction p using Mine.Internal.PV.casesOn with
  |inst C a dd=>exact Rg.bif fun e h=>BU (hx.f _ _ e) h
  |_=>trivial
 |o|ob|ol|om|os|cs|bp|c3|ie|qb|ng|ts|fi|e2|ac|ca|ci|ml|md|ls|tu|sw|sp|ta|nx|sq|ga|wb=>trivial
 |_=>exact fun h=>h
omit hx in
theorem YL (p:List PV)(f:Fr):Rg X d (br X d (ds X d st) f (.l p) H) (dX p st H f):=by
 induction f using Mine.Internal.Fr.casesOn with
 |cs|ci|ml|md|ls|tu|sw=>exact fun h=>h
 |ca p=>induction p using Mine.Internal.PV.casesOn<;>first|exact fun h=>h|trivial
 |_=>trivial
theorem YM (x:V):Rg X d (ds X d st x H) (dY T st H x):=by
 induction x using Mine.Internal.V.casesOn with
 |q p=>
  induction st using Az with
  |nil=>trivial
  |cons f st=>exact YK hx st H p f
 |l p=>
  induction st using Az with
  |nil=>trivial
  |cons f st=>exact YL st H p f
 |b c=>
  induction st using Az with
  |nil=>trivial
  |cons f st=>induction f using Mine.Internal.Fr.casesOn<;>first|exact fun h=>h|trivial
 |m m=>
  induction st using Az with
  |nil=>trivial
  |cons f st=>induction f using Mine.Internal.Fr.casesOn<;>first|exact fun h=>h|trivial
 |f f m=>
  induction st using Az with
  |nil=>trivial
  |cons fr st=>induction fr using Mine.Internal.Fr.casesOn<;>first|trivial|(induction f using Mine.Internal.Fl.casesOn<;>exact fun h=>h)
omit hx in
theorem YN (c:Bool)(f:Fr):Rg X d (br X d (ds X d st) f (.b c) H) (cH c st H f):=by
 induction f using Mine.Internal.Fr.casesOn with
 |ie=>induction c using AX<;>exact fun h=>h
 |bp op r sc m p=>induction op using E7<;>induction c using AX<;>exact fun h=>h
 |c3=>induction c using AX<;>exact fun h=>h
 |ts op r sc m=>induction op using E7<;>induction c using AX<;>exact fun h=>h
 |fi=>induction c using AX<;>exact fun h=>h
 |e2=>induction c using AX<;>first|exact fun h=>h|trivial
 |_=>trivial
omit hx in
theorem YO (o:PO)(t:HT):Rg X d (dh X d H (ds X d st) (some o) t) (dZ o st H t):=by
 induction t using Mine.Internal.HT.casesOn with
 |gt n=>
  induction o using Mine.Internal.PO.casesOn with
  |attrs es=>
   refine(?_:Rg X d (Zx (Uw n es) _) (aJ (Uw n es) _))
   cases Uw n es with
   |none=>trivial
   |some p=>exact fun h=>h
  |_=>trivial
 |st dd n v m=>
  induction o using Mine.Internal.PO.casesOn with
  |attrs es=>exact Rg.bif fun e h=>⟨Ma (Ae.mp e).1,(Ae.mp e).2,h⟩
  |_=>trivial
 |me=>
  induction o using Mine.Internal.PO.casesOn with
  |attrs es=>exact Rg.bif fun e h=>BU e h
  |_=>trivial
 |mc=>
  induction o using Mine.Internal.PO.casesOn with
  |list vs=>exact Rg.bif fun e h=>BU e h
  |dict es n=>exact Rg.bif fun e h=>BU e h
  |_=>trivial
 |ml mt l ps=>
  induction o using Mine.Internal.PO.casesOn with
  |list vs=>
   induction mt using Mine.Internal.Meth.casesOn with
   |extend=>
    rcases ps with _|⟨p,_|⟨q,r⟩⟩
    ·trivial
    ·induction p using Mine.Internal.PV.casesOn<;>first|exact fun h=>h|trivial
    ·induction p using Mine.Internal.PV.casesOn<;>trivial
   |_=>trivial
  |_=>trivial
 |_=>trivial
omit hx in
theorem U8 (x y:Int){K:Bool→Prop}(h:K (decide (x=y))):Ty (.int x) (.int y) K:=by
 refine⟨rfl,rfl,AM _,AM _,?_⟩
 have e:decide (PV.int x=PV.int y)=decide (x=y):=by
  by_cases c:x=y
  ·subst c;rw[decide_eq_true rfl,decide_eq_true rfl];rfl
  ·rw[decide_eq_false c];rewrite[decide_eq_false (fun e=>c (PV.int.inj e))];rfl
 rw[e];exact h
omit hx in
theorem VA (a b:PV)(op:CmpOp):Rg X d (dc X d H (ds X d st) (.cmp op a b)) (XM st H a b op):=by
 induction op using JW with
 |Lt|LtE|Gt|GtE=>induction a using Mine.Internal.PV.casesOn<;>first|trivial|(induction b using Mine.Internal.PV.casesOn<;>first|exact fun h=>h|trivial)
 |Eq|NotEq=>induction a using Mine.Internal.PV.casesOn<;>first|trivial|(induction b using Mine.Internal.PV.casesOn<;>first|exact fun h=>U8 _ _ h|trivial)
 |Is|IsNot=>induction b using Mine.Internal.PV.casesOn<;>first|trivial|(induction a using Mine.Internal.PV.casesOn<;>first|exact fun h=>h|trivial)
 |In|NotIn=>induction b using Mine.Internal.PV.casesOn<;>first|exact fun h=>h|trivial
omit hx in
theorem VB (a b:PV)(op:Operator):Rg X d (dc X d H (ds X d st) (.bin op a b)) (XL st H a b op):=by
 induction op using Iy with
 |Add|Sub=>induction a using Mine.Internal.PV.casesOn<;>first|trivial|(induction b using Mine.Internal.PV.casesOn<;>first|exact fun h=>h|trivial)
 |_=>trivial
omit hx in
theorem X8 (ps:List PV)(b:BI):Rg X d (dc X d H (ds X d st) (.bi b ps)) (aL st H ps b):=by
 rcases ps with _|⟨p,_|⟨q,r⟩⟩
 ·induction b using Mine.Internal.BI.casesOn<;>trivial
 ·induction b using Mine.Internal.BI.casesOn with
  |len|sorted|sum|max|set|dict|int=>induction p using Mine.Internal.PV.casesOn<;>first|exact fun h=>h|trivial
  |_=>trivial
 ·induction b using Mine.Internal.BI.casesOn with
  |len|sorted|sum|max|set|dict|int=>induction p using Mine.Internal.PV.casesOn<;>trivial
  |_=>trivial
theorem X9 (c:C):Rg X d (dc X d H (ds X d st) c) (step T st H c):=by
 induction c using Mine.Internal.C.casesOn with
 |E e sc m=>exact YH hx st H e sc m
 |Es es sc m=>induction es using Az<;>exact fun h=>h
 |Bo op es sc m=>
  rcases es with _|⟨a,_|⟨b,r⟩⟩
  ·trivial
  ·exact fun h=>h
  ·exact fun h=>h
 |Ch ops rs a sc m=>
  rcases ops with _|⟨o,_|⟨o2,os⟩⟩
  ·trivial
  ·rcases rs with _|⟨r,_|⟨r2,rs⟩⟩
   ·trivial
   ·exact Rg.bif fun e h=>BU e h
   ·trivial
  ·rcases rs with _|⟨r,_|⟨r2,rs⟩⟩
   ·trivial
   ·trivial
   ·exact Rg.bif fun e h=>BU e h
 |T e sc m=>exact YI hx st H e sc m
 |Ts op es sc m=>induction es using Az<;>exact fun h=>h
 |Is es sc m=>
  rcases es with _|⟨a,_|⟨b,r⟩⟩
  ·exact fun h=>h
  ·exact fun h=>h
  ·trivial
 |As t sc p m=>exact X7 st H t sc p m
 |Ass ts sc ps m=>
  induction ts using Az with
  |nil=>induction ps using Az<;>first|exact fun h=>h|trivial
  |cons=>induction ps using Az<;>first|exact fun h=>h|trivial
 |S s sc m=>exact YJ hx st H s sc m
 |Ss b sc m=>induction b using Az<;>exact fun h=>h
 |v x=>exact YM hx st H x
 |ho o t=>
  induction o using Bq with
  |none=>trivial
  |some o=>exact YO st H o t
 |cmp op a b=>exact VA st H a b op
 |bin op a b=>exact VB st H a b op
 |bi b ps=>exact X8 st H ps b
 |it p i=>induction p using Mine.Internal.PV.casesOn<;>first|exact fun h=>h|trivial
 |sit q j p m=>induction q using Mine.Internal.PV.casesOn<;>first|exact fun h=>h|trivial
 |sl s p=>induction p using Mine.Internal.PV.casesOn<;>first|exact fun h=>h|trivial
 |fo t b sc m src=>induction src using Mine.Internal.PV.casesOn<;>first|exact fun h=>h|trivial
 |mt n as sc m p=>
  induction p using Mine.Internal.PV.casesOn with
  |inst C a dd=>
   refine(?_:Rg X d (Rz X d (.inst C a dd) n _ _ (H dd) (X.meth C n)) (match T.m C n with|some f=>_|none=>_))
   cases e:T.m C n with
   |none=>trivial
   |some f=>rw[hx.m _ _ _ e];exact fun h=>h
  |loc l=>
   exact U7 (X:=X) (d:=d) (K:=fun mt=> .go (.hp l (.mc l mt as sc m)) st H) (P:=fun mt=>Ni (H l) (bZ l mt (NX X d as sc m H) (qq (ds X d st))) (b_ l mt (NX X d as sc m H) (qq (ds X d st)))) (fun uu h=>h) (IG n)
  |str x=>exact Rg.bif fun e h=>BU e h
  |_=>trivial
 |hp|call|co|tu|nl=>trivial
theorem VC:∀(n:Nat) (c:C) (st:List Fr) (H:AH),Rg X d (dc X d H (ds X d st) c) (run T n c st H)
 |0,_,_,_=>fun h=>h
 |n+1,c,st,H=>by
  have s:=X9 hx st H c (d:=d)
  refine(?_:Rg X d _ (match step T st H c with| .go c st H=>run T n c st H| .no=> .go c st H))
  cases e:step T st H c with
  |no=>exact fun h=>h
  |go c' st' H'=>
   rw[e] at s
   have:=VC n c' st' H'
   refine(?_:Rg X d _ (run T n c' st' H'))
   cases e2:run T n c' st' H' with
   |no=>trivial
   |go c2 st2 H2=>rw[e2] at this;exact fun h=>s (this h)
end
end
section
open Classical
section
variable {X:Ctx}{d:Nat}{T:TB0}(hx:XT X T){c':C}{st st':List Fr}{H H':AH}{m:LM}{sc:SC}
include hx
theorem Kz {c:C}(e:run T 300 c st H= .go c' st' H')(h:dc X d H' (ds X d st') c'):dc X d H (ds X d st) c:=by
 have:=VC hx 300 c st H (d:=d)
 rw[e] at this
 exact this h
theorem go_S {b:List Stmt}{Q:QS}(e:run T 300 (.Ss b sc m) [.os Q] H= .go c' st' H')(h:dc X d H' (ds X d st') c'):NW X d b sc m H Q:=Kz hx e h
theorem go_s {b:Stmt}{Q:QS}(e:run T 300 (.S b sc m) [.os Q] H= .go c' st' H')(h:dc X d H' (ds X d st') c'):vS X d b sc m H Q:=Kz hx e h
theorem go_q {p:PV}(e:run T 300 (.v (.q p)) st H= .go c' st' H')(h:dc X d H' (ds X d st') c'):ds X d st (.q p) H:=Kz hx e h
theorem go_bq {b:Bool}(e:run T 300 (.v (.b b)) (.qb::st) H= .go c' st' H')(h:dc X d H' (ds X d st') c'):ds X d (.qb::st) (.b b) H:=Kz hx e h
theorem go_m (e:run T 300 (.v (.m m)) st H= .go c' st' H')(h:dc X d H' (ds X d st') c'):ds X d st (.m m) H:=Kz hx e h
theorem go_f {f:Fl}(e:run T 300 (.v (.f f m)) st H= .go c' st' H')(h:dc X d H' (ds X d st') c'):ds X d st (.f f m) H:=Kz hx e h
theorem go_b (b:Bool){f:Fr}(e:cI T (cH b st H f)= .go c' st' H')(h:dc X d H' (ds X d st') c'):ds X d (f::st) (.b b) H:=by
 have q:=YN st H b f (X:=X) (d:=d)
 cases e2:cH b st H f with
 |no=>rw[e2] at e;cases e
 |go c2 st2 H2=>
  rw[e2] at e q
  exact q (Kz hx e h)
theorem go_hp {a:Addr}{t:HT}{o:PO}(e0:H a=some o)(e:run T 300 (.ho (some o) t) st H= .go c' st' H')(h:dc X d H' (ds X d st') c'):dc X d H (ds X d st) (.hp a t):=by
 refine(?_:dh X d H (ds X d st) (H a) t)
 rw[e0]
 exact Kz (c:= .ho (some o) t) hx e h
theorem go_hq {a:Addr}{t:HT}{o:PO}(e0:H a=some o)(e:run T 300 (.ho (some o) t) st H= .go c' st' H')(h:dc X d H' (ds X d st') c'):dc X d H (ds X d st) (.ho (H a) t):=go_hp hx e0 e h
theorem go_ho {t:HT}{o:PO}(e:run T 300 (.ho (some o) t) st H= .go c' st' H')(h:dc X d H' (ds X d st') c'):dc X d H (ds X d st) (.ho (some o) t):=Kz hx e h
theorem go_asG {t elt:Expr}{ifs:List Expr}{p:PV}{s2:SC}{acc:List PV}{K:List PV→LM→AH→Prop}(e:run T 300 (.As t sc p m) [.ga elt ifs s2 acc K] H= .go c' st' H')(h:dc X d H' (ds X d st') c'):Lv X d t sc p m H (Zj (Qa X d elt ifs s2) acc K):=Kz hx e h
theorem go_asW {t:Expr}{b:List Stmt}{p:PV}{s2:SC}{Q:QS}(e:run T 300 (.As t sc p m) [.wb b s2 Q] H= .go c' st' H')(h:dc X d H' (ds X d st') c'):Lv X d t sc p m H (cC (Ws X d b s2) Q):=Kz hx e h
theorem go_wt {t:Expr}{Q:QB}(e:run T 300 (.T t sc m) [.ob Q] H= .go c' st' H')(h:dc X d H' (ds X d st') c'):cA X d t sc m H Q:=Kz hx e h
theorem go_kw {b:List Stmt}{K:LM→AH→Prop}{Q:QS}(e:run T 300 (.Ss b sc m) [.os (Yo K Q)] H= .go c' st' H')(h:dc X d H' (ds X d st') c'):dL (Ws X d b sc) K m Q true H:=Kz hx e h
theorem go_un {es:List Expr}{vs:List PV}(l:es.length=vs.length)(w:HX es=true)(e:run T 300 (.Ass es sc vs m) st H= .go c' st' H')(h:dc X d H' (ds X d st') c'):dc X d H (ds X d st) (.ho (some (.list vs)) (.un es sc m)):=
 ⟨l,BU w (Kz (c:= .Ass es sc vs m) hx e h)⟩
omit hx
theorem go_tl {l:Addr}(h:dc X d H (ds X d st) (.hp l (.bi .tuple))):dc X d H (ds X d st) (.bi .tuple [.loc l]):=h
theorem go_cl {l:Addr}{elt t:Expr}{ifs:List Expr}(h:dc X d H (ds X d st) (.hp l (.ic l elt t ifs sc m))):dc X d H (ds X d st) (.co elt t ifs sc m (.loc l)):=h
theorem dn_ret {Q:QE}{p:PV}(h:Q p H):dc X d H (ds X d (.os (aH Q)::st)) (.v (.f (.ret p) m)):=h
theorem dn_nxt {Q:QE}(h:Q .none H):dc X d H (ds X d (.os (aH Q)::st)) (.v (.f .next m)):=h
theorem dn_wn {K:LM→AH→Prop}{Q:QS}(h:K m H):dc X d H (ds X d (.os (Yo K Q)::st)) (.v (.f .next m)):=h
theorem dn_os {Q:QS}{f:Fl}(h:Q f m H):dc X d H (ds X d (.os Q::st)) (.v (.f f m)):=h
theorem dn_ac {acc:List PV}{K:List PV→LM→AH→Prop}{p:PV}(h:acc.length≤100000∧K (acc++[p]) m H):dc X d H (ds X d (.ac acc m K::st)) (.v (.q p)):=h
theorem XN {elt:Expr}{acc:List PV}{K:List PV→LM→AH→Prop}(h:K acc m H):ds X d (.e2 elt sc acc m K::st) (.b false) H:=h
theorem dn_b {f:Fr}{b:Bool}(h:ds X d (f::st) (.b b) H):dc X d H (ds X d (f::st)) (.v (.b b)):=h
theorem dn_sp {x:Str}{ps:List PV}(h:cb x (qq (ds X d st)) ps H):dc X d H (ds X d (.sp x::st)) (.v (.l ps)):=h
theorem dn_hp {a:Addr}{t:HT}(h:dc X d H (ds X d st) (.ho (H a) t)):dc X d H (ds X d st) (.hp a t):=h
variable {l a:Addr}{vs ws ps:List PV}{es:List (PV×PV)}{n:Nat}{p q k v:PV}{i j:Int}{t e:Expr}{ts ifs:List Expr}{b:List Stmt}{x y:Str}
theorem dn_app (h:vs.length≤100000∧ds X d st (.q .none) (H.set l (.list (vs++[v])))):dc X d H (ds X d st) (.ho (some (.list vs)) (.ml .append l [v])):=h
theorem dn_ext (h:vs.length≤100000∧ws.length≤100000∧ds X d st (.q .none) (H.set l (.list (vs++ws)))):dc X d H (ds X d st) (.ho (some (.list ws)) (.ex l vs)):=h
theorem dn_pop (h:∃v,vs.getLast?=some v∧vs.length≤100000∧ds X d st (.q v) (H.set l (.list vs.dropLast))):dc X d H (ds X d st) (.ho (some (.list vs)) (.ml .pop l [])):=by
 revert h;refine fun zq=>AB zq fun v e h=>?_;clear zq
 refine(?_:Xs l vs H _ vs.getLast?)
 rw[e];exact h
theorem dn_sd (h:Cz k∧Bw es∧(∀u,EH k es=some u→ds X d st (.q u) H)∧(EH k es=none→ds X d st (.q v) (H.set l (.dict (es++[(k,v)]) (n+1))))):dc X d H (ds X d st) (.ho (some (.dict es n)) (.md .setdefault l [k,v])):=by
 refine⟨h.1,h.2.1,?_⟩
 cases e:EH k es with
 |some u=>exact h.2.2.1 u e
 |none=>exact h.2.2.2 e
theorem dn_dp (h:Cz k∧Bw es∧∃u,EH k es=some u∧ds X d st (.q u) (H.set l (.dict (Wp k es) (n+1)))):dc X d H (ds X d st) (.ho (some (.dict es n)) (.md .pop l [k])):=by
 refine Aw h fun a zr=>?_;clear h;refine Aw zr fun b zr=>?_;refine AB zr fun u e h=>?_;clear zr
 refine⟨a,b,?_⟩
 rw[e];exact h
theorem dn_itL (h:0≤i∧i<2 ^ 62∧∃p,vs[i.toNat]? =some p∧ds X d st (.q p) H):dc X d H (ds X d st) (.ho (some (.list vs)) (.it (.int i))):=h
theorem dn_itD (h:Cz k∧Bw es∧∃p,EH k es=some p∧ds X d st (.q p) H):dc X d H (ds X d st) (.ho (some (.dict es n)) (.it k)):=h
theorem dn_itT (h:0≤i∧i<2 ^ 62∧∃p,vs[i.toNat]? =some p∧ds X d st (.q p) H):dc X d H (ds X d st) (.it (.tup vs) (.int i)):=h
theorem dn_itS (h:0≤i∧i<2 ^ 62∧∃c,x.cps.toList[i.toNat]? =some c∧ds X d st (.q (.str ⟨#[c]⟩)) H):dc X d H (ds X d st) (.it (.str x) (.int i)):=h
theorem dn_siL (h:0≤i∧i<2 ^ 62∧i.toNat<vs.length∧vs.length≤100000∧ds X d st (.m m) (H.set l (.list (vs.set i.toNat v)))):dc X d H (ds X d st) (.ho (some (.list vs)) (.si l (.int i) v m)):=h
theorem dn_siD (h:Cz k∧Bw es∧ds X d st (.m m) (H.set l (.dict (put k v es) (if(EH k es).isSome then n else n+1)))):dc X d H (ds X d st) (.ho (some (.dict es n)) (.si l k v m)):=h
theorem dn_lnL (h:vs.length≤100000∧ds X d st (.q (.int vs.length)) H):dc X d H (ds X d st) (.ho (some (.list vs)) .ln):=h
theorem dn_lnT (h:vs.length≤100000∧ds X d st (.q (.int vs.length)) H):dc X d H (ds X d st) (.bi .len [.tup vs]):=h
theorem dn_soL (h:FS vs∧∀ws,ws.Perm vs→FT ws→∀c,H c=none→ds X d st (.q (.loc c)) (H.set c (.list ws))):dc X d H (ds X d st) (.ho (some (.list vs)) (.bi .sorted)):=h
theorem dn_soS (h:FS vs∧∀ws,ws.Perm vs→FT ws→∀c,H c=none→ds X d st (.q (.loc c)) (H.set c (.list ws))):dc X d H (ds X d st) (.ho (some (.set vs)) (.bi .sorted)):=h
theorem dn_sum (h:∃is,Dn vs=some is∧is.length≤100000∧ds X d st (.q (.int is.sum)) H):dc X d H (ds X d st) (.ho (some (.list vs)) (.bi .sum)):=by
 revert h;refine fun zq=>AB zq fun is e h=>?_;clear zq
 refine(?_:UK _ (Dn vs))
 rw[e];exact h
theorem dn_max (h:∃i is,Dn vs=some (i::is)∧is.length≤90000∧ds X d st (.q (.int (is.foldl max i))) H):dc X d H (ds X d st) (.ho (some (.list vs)) (.bi .max)):=by
 revert h;refine fun zq=>BT zq fun i is e h=>?_;clear zq
 refine(?_:UL _ (Dn vs))
 rw[e];exact h
theorem dn_tup (h:vs.length≤100000∧ds X d st (.q (.tup vs)) H):dc X d H (ds X d st) (.ho (some (.list vs)) (.bi .tuple)):=h
theorem dn_set (h:vs.length≤18∧C9 vs=true∧B_ vs≤7∧SL vs∧∀ws:List PV,ws.Nodup→(∀x,x∈ws↔x∈vs)→∀c,H c=none→ds X d st (.q (.loc c)) (H.set c (.set ws))):dc X d H (ds X d st) (.ho (some (.list vs)) (.bi .set)):=h
theorem dn_dct (h:∃ps:List (PV×PV),Ed vs=some ps∧C9 (ps.map (·.1))=true∧B_ (ps.map (·.1))≤7∧(∀q∈ps,b5 q.1=true)∧ps.length≤10000∧∀c n,H c=none→ds X d st (.q (.loc c)) (H.set c (.dict (E1 ps []) n))):dc X d H (ds X d st) (.ho (some (.list vs)) (.bi .dict)):=by
 revert h;refine fun zq=>AB zq fun ps e h=>?_;clear zq
 refine(?_:UM H _ (Ed vs))
 rw[e];exact h
theorem dn_icL (h:vs.length≤100000∧Fu (bR l vs) (Lv X d t sc) (Qa X d e ifs sc) vs [] m H (RN (qq (ds X d st)))):dc X d H (ds X d st) (.ho (some (.list vs)) (.ic l e t ifs sc m)):=h
theorem dn_icD (h:es.length≤100000∧Fu (bS l es n) (Lv X d t sc) (Qa X d e ifs sc) (es.map (·.1)) [] m H (RN (qq (ds X d st)))):dc X d H (ds X d st) (.ho (some (.dict es n)) (.ic l e t ifs sc m)):=h
theorem dn_foL (h:vs.length≤100000∧Hh (bR l vs) (Lv X d t sc) (Ws X d b sc) vs m H (ff (ds X d st))):dc X d H (ds X d st) (.ho (some (.list vs)) (.fo l t b sc m)):=h
theorem dn_foD (h:es.length≤100000∧Hh (bS l es n) (Lv X d t sc) (Ws X d b sc) (es.map (·.1)) m H (ff (ds X d st))):dc X d H (ds X d st) (.ho (some (.dict es n)) (.fo l t b sc m)):=h
theorem dn_inD (h:Cz p∧Bw es∧ds X d st (.b (EH p es).isSome) H):dc X d H (ds X d st) (.ho (some (.dict es n)) (.in_ p)):=h
theorem dn_niD (h:Cz p∧Bw es∧ds X d st (.b (!(EH p es).isSome)) H):dc X d H (ds X d st) (.ho (some (.dict es n)) (.ni p)):=h
theorem dn_slR (h:vs.length≤100000∧∀c,H c=none→ds X d st (.q (.loc c)) (H.set c (.list vs.reverse))):dc X d H (ds X d st) (.ho (some (.list vs)) (.sl .rev)):=h
theorem dn_stF (h:vs.length≤100000∧1≤n∧n≤vs.length∧ds X d st (.q (.tup (vs.drop n))) H):dc X d H (ds X d st) (.sl (.from n) (.tup vs)):=h
theorem dn_stU (h:vs.length≤100000∧n<vs.length∧ds X d st (.q (.tup (vs.take n))) H):dc X d H (ds X d st) (.sl (.upto n) (.tup vs)):=h
theorem dn_slW (h:∃vs,X.lst=some (a,vs)∧vs.length≤100000∧∀c,H c=none→ds X d st (.q (.loc c)) (H.set c (.list (vs.take n)))):dc X d H (ds X d st) (.sl (.upto n) (.raw (.ref a))):=by
 revert h;refine fun zq=>AB zq fun vs e h=>?_;clear zq
 refine(?_:Hg (.upto n) H _ (IE a X.lst))
 rw[e];rewrite[show IE a (some (a,vs))=some vs from if_pos rfl]
 exact h
theorem dn_neW (h:∃vs ws,X.lst=some (a,vs)∧H l=some (.list ws)∧C9 vs=true∧C9 ws=true∧B_ vs≤100∧B_ ws≤100∧ds X d st (.b (!decide (vs=ws))) H):dc X d H (ds X d st) (.cmp .NotEq (.raw (.ref a)) (.loc l)):=by
 revert h;refine fun zq=>Cv zq fun vs ws e1 e2 h=>?_;clear zq
 refine(?_:Tx (H l) _ (IE a X.lst))
 rw[e1,e2];rewrite[show IE a (some (a,vs))=some vs from if_pos rfl]
 exact h
theorem dn_adT (h:vs.length≤100000∧ws.length≤100000∧ds X d st (.q (.tup (vs++ws))) H):dc X d H (ds X d st) (.bin .Add (.tup vs) (.tup ws)):=h
theorem dn_adL (h:∃vs ws,H l=some (.list vs)∧H a=some (.list ws)∧vs.length≤100000∧ws.length≤100000∧∀c,H c=none→ds X d st (.q (.loc c)) (H.set c (.list (vs++ws)))):dc X d H (ds X d st) (.bin .Add (.loc l) (.loc a)):=by
 revert h;refine fun zq=>Cv zq fun vs ws e1 e2 h=>?_;clear zq
 refine(?_:oL (H l) (Zz H _ (H a)))
 rw[e1,e2];exact h
theorem dn_mu (h:room i∧room j∧ds X d st (.q (.int (i*j))) H):dc X d H (ds X d st) (.bin .Mult (.int i) (.int j)):=h
theorem dn_muL (h:∃vs,H l=some (.list vs)∧vs.length≤1000∧0≤i∧i≤1000∧∀c,H c=none→ds X d st (.q (.loc c)) (H.set c (.list (Cw i.toNat vs).flatten))):dc X d H (ds X d st) (.bin .Mult (.loc l) (.int i)):=by
 revert h;refine fun zq=>AB zq fun vs e1 h=>?_;clear zq
 refine(?_:oL (H l) (ZA i H _))
 rw[e1];exact h
theorem dn_mod (h:j≠0∧ds X d st (.q (.int (i.fmod j))) H):dc X d H (ds X d st) (.bin .Mod (.int i) (.int j)):=h
theorem dn_eqT (h:(PV.tup vs).data=true∧p.data=true∧(PV.tup vs).deep≤100∧p.deep≤100∧ds X d st (.b (decide (.tup vs=p))) H):dc X d H (ds X d st) (.cmp .Eq (.tup vs) p):=h
theorem dn_neT (h:(PV.tup vs).data=true∧p.data=true∧(PV.tup vs).deep≤100∧p.deep≤100∧ds X d st (.b (!decide (.tup vs=p))) H):dc X d H (ds X d st) (.cmp .NotEq (.tup vs) p):=h
theorem dn_eqS (h:(PV.str x).data=true∧p.data=true∧(PV.str x).deep≤100∧p.deep≤100∧ds X d st (.b (decide (.str x=p))) H):dc X d H (ds X d st) (.cmp .Eq (.str x) p):=h
theorem dn_neS (h:(PV.str x).data=true∧p.data=true∧(PV.str x).deep≤100∧p.deep≤100∧ds X d st (.b (!decide (.str x=p))) H):dc X d H (ds X d st) (.cmp .NotEq (.str x) p):=h
theorem dn_eqL (h:∃vs ws,H l=some (.list vs)∧H a=some (.list ws)∧C9 vs=true∧C9 ws=true∧B_ vs≤100∧B_ ws≤100∧ds X d st (.b (decide (vs=ws))) H):dc X d H (ds X d st) (.cmp .Eq (.loc l) (.loc a)):=by
 revert h;refine fun zq=>Cv zq fun vs ws e1 e2 h=>?_;clear zq
 refine(?_:Tx (H a) _ (N2 (H l)))
 rw[e1,e2];exact h
theorem dn_neL (h:∃vs ws,H l=some (.list vs)∧H a=some (.list ws)∧C9 vs=true∧C9 ws=true∧B_ vs≤100∧B_ ws≤100∧ds X d st (.b (!decide (vs=ws))) H):dc X d H (ds X d st) (.cmp .NotEq (.loc l) (.loc a)):=by
 revert h;refine fun zq=>Cv zq fun vs ws e1 e2 h=>?_;clear zq
 refine(?_:Tx (H a) _ (N2 (H l)))
 rw[e1,e2];exact h
theorem dn_inS (h:ds X d st (.b (!(EY y x 0 y.length 1).isEmpty)) H):dc X d H (ds X d st) (.cmp .In (.str x) (.str y)):=h
theorem dn_call {v:Ac}(h:Bz X d (.raw v) ps H (qq (ds X d st))):dc X d H (ds X d st) (.call v ps):=h
theorem dn_rg1 (h:small i∧ds X d st (.q (.rng 0 i)) H):dc X d H (ds X d st) (.bi .range [.int i]):=h
theorem dn_rg2 (h:small i∧small j∧ds X d st (.q (.rng i j)) H):dc X d H (ds X d st) (.bi .range [.int i, .int j]):=h
theorem dn_abs (h:ds X d st (.q (.int (BQ i.natAbs))) H):dc X d H (ds X d st) (.bi .abs [.int i]):=h
theorem dn_coT (h:vs.length≤100000∧Fu Xr (Lv X d t sc) (Qa X d e ifs sc) vs [] m H (RN (qq (ds X d st)))):dc X d H (ds X d st) (.co e t ifs sc m (.tup vs)):=h
theorem dn_coR (h:small i∧small j∧Fu Xr (Lv X d t sc) (Qa X d e ifs sc) ((Am (j-i).toNat).map fun k=> .int (i+BQ k)) [] m H (RN (qq (ds X d st)))):dc X d H (ds X d st) (.co e t ifs sc m (.rng i j)):=h
theorem dn_coS (h:x.length≤1000∧x.cps.all (· <128)=true∧Fu Xr (Lv X d t sc) (Qa X d e ifs sc) (x.cps.toList.map fun c=> .str ⟨#[c]⟩) [] m H (RN (qq (ds X d st)))):dc X d H (ds X d st) (.co e t ifs sc m (.str x)):=h
theorem dn_foT (h:vs.length≤100000∧Hh Xr (Lv X d t sc) (Ws X d b sc) vs m H (ff (ds X d st))):dc X d H (ds X d st) (.fo t b sc m (.tup vs)):=h
theorem dn_foR (h:small i∧small j∧Hh Xr (Lv X d t sc) (Ws X d b sc) ((Am (j-i).toNat).map fun k=> .int (i+BQ k)) m H (ff (ds X d st))):dc X d H (ds X d st) (.fo t b sc m (.rng i j)):=h
theorem dn_nl (h:∀c,H c=none→ds X d st (.q (.loc c)) (H.set c (.list ps))):dc X d H (ds X d st) (.nl ps):=h
theorem dn_dic {z:Pos}(h:∀c,H c=none→ds X d st (.q (.loc c)) (H.set c (.dict [] 0))):dc X d H (ds X d st) (.E (.Dict [] [] z) sc m):=h
theorem dn_wl {z:Pos}(h:∃n,Ij (cA X d t sc) (Ws X d b sc) n m H (ff (ds X d st))):dc X d H (ds X d st) (.S (.While t b [] z) sc m):=h
end
theorem hb1 {α β:Type}{F G:List α→β}(h:∀a,F [a]=G [a]):∀l:List α,l.length=1→F l=G l:=fun l e=>by
 induction l using Az with
 |nil=>exact absurd e (JX _)
 |cons a r=>exact(CJ (Qq e)).symm▸h a
theorem cJ {α β:Type}{F G:List α→β}{n:Nat}(h:∀a,∀l:List α,l.length=n→F (a::l)=G (a::l)):∀l:List α,l.length=n+1→F l=G l:=fun l e=>by
 induction l using Az with
 |nil=>exact absurd e (JX _)
 |cons a r=>exact h a r (Qq e)
theorem hb2 {α β:Type}{F G:List α→β}(h:∀a b,F [a,b]=G [a,b]):∀l:List α,l.length=2→F l=G l:=cJ fun a=>hb1 (F:=fun l=>F (a::l)) (G:=fun l=>G (a::l)) (h a)
theorem hb3 {α β:Type}{F G:List α→β}(h:∀a b c,F [a,b,c]=G [a,b,c]):∀l:List α,l.length=3→F l=G l:=cJ fun a=>hb2 (F:=fun l=>F (a::l)) (G:=fun l=>G (a::l)) (h a)
theorem hb4 {α β:Type}{F G:List α→β}(h:∀a b c d,F [a,b,c,d]=G [a,b,c,d]):∀l:List α,l.length=4→F l=G l:=cJ fun a=>hb3 (F:=fun l=>F (a::l)) (G:=fun l=>G (a::l)) (h a)
end
section
end
section
def Sa:List Int:=[2,0,0,1,0,1,0,3,1,2,2,1,2,0,4,1,5,3]
def cK:List (Str×PV):=[("len", .bi .len),("range", .bi .range),("sorted", .bi .sorted),("sum", .bi .sum),("max", .bi .max),("tuple", .bi .tuple),("list", .bi .list),("set", .bi .set),("dict", .bi .dict),("int", .bi .int),("abs", .bi .abs),("str", .bi .str),("Bank", .raw (.ref 186)),("Counts", .raw (.ref 273)),("Unions", .raw (.ref 355)),("Heap", .raw (.ref 485)),("is_op", .raw (.ref 79)),("_law_draw", .raw (.ref 497)),("_law_nodes", .raw (.ref 502)),("_law_ways", .raw (.ref 507)),("_law_table", .raw (.ref 512)),("_law_is_told", .raw (.ref 517)),("LimitFault", .raw (.ref 72)),("MOST_SIZE", .int 200),("_law_plain", .tup (Sa.map .int))]
def cL:List (Nat×Str×Nat):=[(186,"size",105),(186,"take",110),(186,"require",117),(186,"op",143),(186,"kids",150),(186,"node",157),(273,"renewed",211),(273,"many",218),(273,"upto",223),(273,"rows",228),(355,"make",298),(355,"size",305),(355,"find",312),(355,"merge",319),(355,"members",326),(355,"classes",331),(485,"size",380),(485,"node",385),(485,"add",390),(485,"put",395),(485,"look_at",402),(485,"find",409),(485,"merge",423),(485,"join",430),(485,"settle",437),(485,"classes",451),(485,"members",458),(485,"nodes_of",463)]
def cM:List (Nat×Str):=[(186,"nodes"),(186,"numbers"),(186,"weights"),(186,"depths"),(273,"heap"),(273,"mark"),(273,"known"),(355,"above"),(355,"lots"),(355,"merged"),(485,"bank"),(485,"unions"),(485,"edges"),(485,"forest"),(485,"known"),(485,"above"),(485,"waiting")]
def tG (x:Str):List (Str×PV)→Option PV
 |[]=>none
 |(y,v)::r=>bif same y x then some v else tG x r
def tM (C:Addr)(x:Str):List (Nat×Str×Nat)→Option Addr
 |[]=>none
 |(D,y,v)::r=>bif M4 D C&&same y x then some v else tM C x r
def tF (C:Addr)(x:Str):List (Nat×Str)→Bool
 |[]=>false
 |(D,y)::r=>M4 D C&&same y x||tF C x r
def bt:TB0:=⟨fun x=>tG x cK,fun C x=>tM C x cL,fun C x=>tF C x cM⟩
structure XOk (X:Ctx):Prop where
 K:X.K=M5.heap_1 X.w.params
 t:XT X bt
end
section
open Classical
structure Node where
 op:Str
 kids:List Nat
abbrev B5 (n:Nat):PV:= .int (n:Int)
def AL (l:List Nat):List PV:=l.map B5
def Fs (n:Node):PV:= .tup (.str n.op::AL n.kids)
def rt (up:List Nat):Nat→Nat→Nat
 |0,a=>a
 |k+1,a=>if up.getD a a=a then a else rt up k (up.getD a a)
theorem U9 {up:List Nat}{k a:Nat}:rt up (k+1) a=if up.getD a a=a then a else rt up k (up.getD a a):=rfl
def BG (up:List Nat)(a:Nat):Nat:=rt up a a
def LD (up:List Nat):Prop:=∀i,up.getD i i≤i
structure Lay where
 low:Nat→Addr
 lotA:Nat→Addr
 abvA:Nat→Addr
 iH:Addr
 iB:Addr
 iU:Addr
set_option genInjectivity true in
inductive Cl where
 |lo (k:Nat)|lot (i:Nat)|abv (c:Nat)
def Cl.ctorIdx (x:Cl):Nat:=Cl.casesOn x (fun _=>0) (fun _=>1) (fun _=>2)
def Lay.at_ (L:Lay):Cl→Addr
 | .lo k=>L.low k
 | .lot i=>L.lotA i
 | .abv c=>L.abvA c
structure HS where
 nodes:List Node
 num:List Node
 numN:Nat
 wt:List Int
 dp:List Int
 up:List Nat
 lots:List (List Nat)
 mrg:List PV
 edges:List PV
 forest:List PV
 known:List (PV×PV)
 knownN:Nat
 abk:List Nat
 abN:Nat
 abl:Nat→List Nat
 wait:List Nat
def Ft (L:Lay):PV:= .inst 485 L.iH (L.low 1)
def Wu (L:Lay):PV:= .inst 186 L.iB (L.low 2)
def Xa (L:Lay):PV:= .inst 355 L.iU (L.low 3)
def GC (nodes:List Node):List (PV×PV):=nodes.mapIdx fun i n=>(Fs n,B5 i)
def E4 (L:Lay)(ks:List Nat):List (PV×PV):=ks.map fun c=>(B5 c, .loc (L.abvA c))
def HY (L:Lay)(n:Nat):List PV:=(Am n).map fun i=> .loc (L.lotA i)
def low (L:Lay)(s:HS):List PO:=[.list [],
 .attrs [(.str "bank",Wu L),(.str "unions",Xa L),(.str "edges", .loc (L.low 4)),(.str "forest", .loc (L.low 5)),(.str "known", .loc (L.low 6)),(.str "above", .loc (L.low 7)),(.str "waiting", .loc (L.low 8))],
 .attrs [(.str "nodes", .loc (L.low 9)),(.str "numbers", .loc (L.low 10)),(.str "weights", .loc (L.low 11)),(.str "depths", .loc (L.low 12))],
 .attrs [(.str "above", .loc (L.low 13)),(.str "lots", .loc (L.low 14)),(.str "merged", .loc (L.low 15))],
 .list s.edges, .list s.forest, .dict s.known s.knownN, .dict (E4 L s.abk) s.abN, .list (AL s.wait), .list (s.nodes.map Fs), .dict (GC s.num) s.numN,
 .list (s.wt.map .int), .list (s.dp.map .int), .list (AL s.up), .list (HY L s.lots.length), .list s.mrg]
def Du (L:Lay)(s:HS):Cl→PO
 | .lo k=>(low L s).getD k (.list [])
 | .lot i=> .list (AL (s.lots.getD i []))
 | .abv c=> .list (AL (s.abl c))
def HZ (s:HS):Cl→Prop
 | .lo k=>1≤k∧k≤15
 | .lot i=>i<s.lots.length
 | .abv c=>c∈s.abk
structure At (L:Lay)(s:HS)(H:AH):Prop where
 cell:∀k,HZ s k→H (L.at_ k)=some (Du L s k)
 inj:∀j k,HZ s j→HZ s k→L.at_ j=L.at_ k→j=k
abbrev Le (H H':AH):Prop:=∀a o,H a=some o→H' a=some o
theorem Le.refl (H:AH):Le H H:=fun uu uu e=>e
theorem Le.trans {A B C:AH}(x:Le A B)(y:Le B C):Le A C:=fun a o e=>y a o (x a o e)
theorem Le.new {H:AH}{c:Addr}{o:PO}(h:H c=none):Le H (H.set c o):=fun a x e=>by
 rw[AH.set_ne (fun q=>by rw[q,h] at e;exact CC e)];exact e
theorem Le.none {H H':AH}(l:Le H H'){c:Addr}(h:H' c=none):H c=none:=by
 cases z:H c with
 |none=>rfl
 |some o=>rw[l _ _ z] at h;exact HJ h
theorem At.le {L:Lay}{s:HS}{H H':AH}(A:At L s H)(l:Le H H'):At L s H':=⟨fun k v=>l _ _ (A.cell k v),A.inj⟩
section
variable {L:Lay}{s:HS}{H:AH}
theorem At.lo (A:At L s H){k:Nat}(h:(M3 1 k&&M3 k 15)=true):H (L.low k)=some (Du L s (.lo k)):=
 A.cell (.lo k) ⟨BC (Ae.mp h).1,BC (Ae.mp h).2⟩
theorem At.c1 (A:At L s H):H (L.low 1)=some (.attrs [(.str "bank",Wu L),(.str "unions",Xa L),(.str "edges", .loc (L.low 4)),(.str "forest", .loc (L.low 5)),(.str "known", .loc (L.low 6)),(.str "above", .loc (L.low 7)),(.str "waiting", .loc (L.low 8))]):=A.lo rfl
theorem At.c2 (A:At L s H):H (L.low 2)=some (.attrs [(.str "nodes", .loc (L.low 9)),(.str "numbers", .loc (L.low 10)),(.str "weights", .loc (L.low 11)),(.str "depths", .loc (L.low 12))]):=A.lo rfl
theorem At.c3 (A:At L s H):H (L.low 3)=some (.attrs [(.str "above", .loc (L.low 13)),(.str "lots", .loc (L.low 14)),(.str "merged", .loc (L.low 15))]):=A.lo rfl
theorem At.c4 (A:At L s H):H (L.low 4)=some (.list s.edges):=A.lo rfl
theorem At.c5 (A:At L s H):H (L.low 5)=some (.list s.forest):=A.lo rfl
theorem At.c6 (A:At L s H):H (L.low 6)=some (.dict s.known s.knownN):=A.lo rfl
theorem At.c7 (A:At L s H):H (L.low 7)=some (.dict (E4 L s.abk) s.abN):=A.lo rfl
theorem At.c8 (A:At L s H):H (L.low 8)=some (.list (AL s.wait)):=A.lo rfl
theorem At.c9 (A:At L s H):H (L.low 9)=some (.list (s.nodes.map Fs)):=A.lo rfl
theorem At.c10 (A:At L s H):H (L.low 10)=some (.dict (GC s.num) s.numN):=A.lo rfl
theorem At.c11 (A:At L s H):H (L.low 11)=some (.list (s.wt.map .int)):=A.lo rfl
theorem At.c12 (A:At L s H):H (L.low 12)=some (.list (s.dp.map .int)):=A.lo rfl
theorem At.c13 (A:At L s H):H (L.low 13)=some (.list (AL s.up)):=A.lo rfl
theorem At.c14 (A:At L s H):H (L.low 14)=some (.list (HY L s.lots.length)):=A.lo rfl
theorem At.c15 (A:At L s H):H (L.low 15)=some (.list s.mrg):=A.lo rfl
theorem At.lot (A:At L s H){i:Nat}(h:i<s.lots.length):H (L.lotA i)=some (.list (AL (s.lots.getD i []))):=A.cell (.lot i) h
theorem At.abv (A:At L s H){c:Nat}(h:c∈s.abk):H (L.abvA c)=some (.list (AL (s.abl c))):=A.cell (.abv c) h
def ON (L:Lay)(s:HS)(a:Addr):Prop:=∃k,HZ s k∧a=L.at_ k
theorem At.notOur (A:At L s H){c:Addr}(h:H c=none):¬ON L s c:=fun⟨k,v,e⟩=>by
 have:=A.cell k v
 rw[←e,h] at this
 exact CC this
structure Step (L:Lay)(s:HS)(H:AH)(L':Lay)(s':HS)(H':AH):Prop where
 keep:∀a o,H a=some o→¬ON L s a→H' a=some o
 our:∀a,ON L' s' a→ON L s a∨H a=none
theorem Step.refl:Step L s H L s H:=⟨fun uu uu e uu=>e,fun uu o=> .inl o⟩
theorem Step.le {H':AH}(l:Le H H'):Step L s H L s H':=⟨fun a o e uu=>l a o e,fun uu o=> .inl o⟩
theorem Step.trans {L1 L2:Lay}{s1 s2:HS}{H1 H2:AH}(x:Step L s H L1 s1 H1)(y:Step L1 s1 H1 L2 s2 H2):Step L s H L2 s2 H2:=by
 refine⟨fun a o e n=>y.keep a o (x.keep a o e n) fun q=>?_,fun a q=>?_⟩
 ·refine Ap (x.our a q) (fun z=>?_) fun z=>?_
  ·exact n z
  ·rw[z] at e;exact CC e
 ·refine Ap (y.our a q) (fun z=>?_) fun z=>?_
  ·exact x.our a z
  ·by_cases n:ON L s a
   ·exact .inl n
   ·refine .inr ?_
    cases e:H a with
    |none=>rfl
    |some o=>rw[x.keep a o e n] at z;exact HJ z
theorem At.turn' (A:At L s H){k:Cl}{o:PO}{H2:AH}(hH:H.set (L.at_ k) o=H2)(s':HS)(ho:o=Du L s' k)(hk:HZ s k)(hv:∀j,HZ s' j→HZ s j)(hc:∀j,HZ s' j→j≠k→Du L s' j=Du L s j):
  At L s' H2∧Step L s H L s' H2:=by
 subst hH ho
 refine⟨⟨fun j vj=>?_,fun i j vi vj=>A.inj i j (hv i vi) (hv j vj)⟩,fun a o e n=>?_,fun a ⟨j,vj,e⟩=> .inl ⟨j,hv j vj,e⟩⟩
 ·by_cases q:j=k
  ·subst q;rw[AH.set_self _ _ _];rfl
  ·rewrite[AH.set_ne (fun z=>q (A.inj j k (hv j vj) hk z))];rw[A.cell j (hv j vj),hc j vj q];rfl
 ·rewrite[AH.set_ne (fun z=>n ⟨k,hk,z⟩)];exact e
theorem At.turn (A:At L s H)(k:Nat){o:PO}{H2:AH}(hH:H.set (L.low k) o=H2)(s':HS)(ho:o=Du L s' (.lo k))(hl:low L s'=(low L s).set k (Du L s' (.lo k)))(e1:s'.lots=s.lots)(e2:s'.abl=s.abl)(e3:s'.abk=s.abk)
  (hk:(M3 1 k&&M3 k 15)=true):At L s' H2∧Step L s H L s' H2:=by
 have hk:1≤k∧k≤15:=⟨BC (Ae.mp hk).1,BC (Ae.mp hk).2⟩
 refine A.turn' (k:= .lo k) hH s' ho hk (fun j v=>?_) fun j v ne=>?_
 ·induction j using Mine.Internal.Cl.casesOn with
  |lo i=>exact v
  |lot i=>exact(show i<s.lots.length from e1▸(show i<s'.lots.length from v))
  |abv c=>exact(show c∈s.abk from e3▸(show c∈s'.abk from v))
 ·induction j using Mine.Internal.Cl.casesOn with
  |lo i=>
   refine(?_:(low L s').getD i _=(low L s).getD i _)
   rw[hl,Av];rewrite[G4 (fun e=>ne (by rw[e];rfl))];rw[←Av];rfl
  |lot i=>refine(?_:PO.list (AL (s'.lots.getD i []))=_);rw[e1];rfl
  |abv c=>refine(?_:PO.list (AL (s'.abl c))=_);rw[e2];rfl
end
theorem YP {a b:Nat}(h:a=b):decide ((a:Int)=(b:Int))=true:=decide_eq_true (congrArg _ h)
theorem aM {a b:Nat}(h:a≠b):decide ((a:Int)=(b:Int))=false:=decide_eq_false fun e=>h (Cj e)
theorem cN {a b:Nat}(h:a<b):decide ((a:Int)<(b:Int))=true:=decide_eq_true (C_.mpr h)
theorem cO {a b:Nat}(h:b≤a):decide ((a:Int)<(b:Int))=false:=decide_eq_false fun e=>BO _ (Bt (C_.mp e) h)
theorem nn (n:Nat):(0:Int)≤(n:Int):=AY n
theorem Oh {l:List Nat}{i:Nat}(h:i<l.length):(AL l)[i]? =some (B5 (l.getD i i)):=by
 unfold AL
 rw[Bc,Ah h,Av,Ah h]
 rfl
theorem AS (l:List Nat):(AL l).length=l.length:=Ag ..
theorem Qh {up:List Nat}{a:Nat}(h:up.getD a a=a):∀k,rt up k a=a
 |0=>rfl
 |k+1=>by rewrite[U9];rw[if_pos h];rfl
theorem YQ {up:List Nat}(hu:LD up)(n:Nat):∀a k,a≤n→a≤k→rt up k a=rt up a a:=by
 induction n with
 |zero=>intro a k h _;cases G6.mp h;rewrite[Qh (G6.mp (hu 0))];rfl
 |succ n ih=>
  intro a k h hk
  by_cases c:up.getD a a=a
  ·rw[Qh c _,Qh c _];rfl
  ·have lt:up.getD a a<a:=DI (hu a) c
   cases a with
   |zero=>exact absurd lt (Bj _)
   |succ a=>
    cases k with
    |zero=>exact absurd hk (E8 _)
    |succ k=>
     have le:=CS lt
     have ln:=Aa le (Fd h)
     rewrite[U9];rw[if_neg c];rewrite[U9];rw[if_neg c,ih _ k ln (Aa le (Fd hk)),ih _ a ln le];rfl
theorem Xb {up:List Nat}(hu:LD up)(k a:Nat)(h:a≤k):rt up k a=rt up a a:=YQ hu a a k (Ak _) h
theorem Ey {up:List Nat}{a:Nat}(h:up.getD a a=a):BG up a=a:=Qh h _
theorem H_ {up:List Nat}(hu:LD up){a:Nat}:BG up a=BG up (up.getD a a):=by
 by_cases c:up.getD a a=a
 ·rw[c];rfl
 ·have lt:up.getD a a<a:=DI (hu a) c
  unfold BG
  cases a with
  |zero=>exact absurd lt (Bj _)
  |succ a=>rewrite[U9];rw[if_neg c,Xb hu a _ (CS lt)];rfl
theorem FL {up:List Nat}(hu:LD up)(n:Nat):∀a,a≤n→up.getD (BG up a) (BG up a)=BG up a∧BG up a≤a:=by
 induction n with
 |zero=>intro a h;cases G6.mp h;exact⟨G6.mp (hu 0),Ak _⟩
 |succ n ih=>
  intro a h
  by_cases c:up.getD a a=a
  ·rw[Ey c];exact⟨c,Ak _⟩
  ·have lt:up.getD a a<a:=DI (hu a) c
   have:=ih (up.getD a a) (CS (Bt lt h))
   rw[←H_ hu] at this
   exact⟨this.1,Aa this.2 (AU lt)⟩
theorem LE {up:List Nat}(hu:LD up)(a:Nat):BG up a≤a:=(FL hu a a (Ak _)).2
end
local macro_rules |`(tactic|x_run)=>pure mqhbT
local macro_rules |`(tactic|z_run)=>pure (mqwalkT [])
local macro_rules |`(tactic|k_one)=>pure (mqwalkT mqcL)
section
open Classical
section
variable {X:Ctx}{L:Lay}{s:HS}{H:AH}{d:Nat}
theorem Nk (hx:XOk X)(A:At L s H)(hu:LD s.up){a:Nat}(ha:a<s.up.length)(hz:s.up.length≤1000):
  Bz X (d+1) (.raw (.ref 312)) [Xa L,B5 a] H fun p H'=>p=B5 (BG s.up a)∧H'=H:=by
 refine CU hx.K ["self","a"] (by z_go) (by z_go) (by decide+kernel) (by x_run) ?_
 k_one
 refine⟨a+1,?_⟩
 obtain ⟨r,hr⟩:∃r,r=BG s.up a:=⟨_,rfl⟩
 rw[←hr]
 have hn:a<a+1:=Bx _
 generalize a+1=n at hn ⊢
 induction n generalizing a with
 |zero=>x_go
 |succ n ih=>
  rewrite[MR]
  k_one
  refine⟨by with_unfolding_all exact AY _,by with_unfolding_all exact Kl ((Al [_,_] 0x40000000000000000840501405023e838102) hz ha),B5 (s.up.getD a a),by rw[B7 _,Oh ha];rfl,?_⟩
  k_one
  have h1:=hu a
  by_cases c:s.up.getD a a=a
  ·rw[c,decide_eq_true rfl]
   rw[Ey c] at hr
   rw[hr]
   z_run
  ·rw[decide_eq_false (by with_unfolding_all exact mt Cj ((Al [_,_] 0x51012510122) c))]
   z_run
   k_one
   refine⟨by with_unfolding_all exact AY _,by with_unfolding_all exact Kl ((Al [_,_] 0x40000000000000000840501405023e838102) hz ha),B5 (s.up.getD a a),by rw[B7 _,Oh ha];rfl,?_⟩
   z_run
   exact ih (a:=s.up.getD a a) (by exact AJ ‹_› ‹_›) (by rw[hr];exact H_ hu) (by exact(Al [_,_,_] 0x14050520122200241542502) hn h1 c)
end
end
section
open Classical
section
variable {X:Ctx}{L:Lay}{s:HS}{H:AH}{d:Nat}
theorem Hm (hx:XOk X)(A:At L s H)(hu:LD s.up){a:Nat}(ha:a<s.up.length)(hz:s.up.length≤1000):
  Bz X (d+2) (.raw (.ref 409)) [Ft L,B5 a] H fun p H'=>p=B5 (BG s.up a)∧H'=H:=by
 refine CU hx.K ["self","n"] (by z_go) (by z_go) (by decide+kernel) (by x_run) ?_
 k_one
 exact Nk hx A hu ha hz
theorem Xc (hx:XOk X)(A:At L s H)(hz:s.nodes.length≤1000):Bz X (d+1) (.raw (.ref 105)) [Wu L] H fun p H'=>p=B5 s.nodes.length∧H'=H:=by
 refine CU hx.K ["self"] (by z_go) (by z_go) (by decide+kernel) (by x_run) ?_
 k_one
 rw[Ag _]
 refine⟨by exact Aa ‹_› (by decide),?_⟩
 z_run
theorem T9 (hx:XOk X)(A:At L s H)(hz:s.up.length≤1000):Bz X (d+1) (.raw (.ref 305)) [Xa L] H fun p H'=>p=B5 s.up.length∧H'=H:=by
 refine CU hx.K ["self"] (by z_go) (by z_go) (by decide+kernel) (by x_run) ?_
 k_one
 rw[AS _]
 refine⟨by exact Aa ‹_› (by decide),?_⟩
 z_run
theorem Ho (hx:XOk X)(A:At L s H)(hz:s.nodes.length≤1000):Bz X (d+2) (.raw (.ref 380)) [Ft L] H fun p H'=>p=B5 s.nodes.length∧H'=H:=by
 refine CU hx.K ["self"] (by z_go) (by z_go) (by decide+kernel) (by x_run) ?_
 k_one
 exact Xc hx A hz
theorem aN (hx:XOk X)(A:At L s H){n:Nat}{nd:Node}(hn:s.nodes[n]? =some nd)(hz:s.nodes.length≤1000):Bz X (d+1) (.raw (.ref 143)) [Wu L,B5 n] H fun p H'=>p= .str nd.op∧H'=H:=by
 have hl:n<s.nodes.length:=(A_.mp hn).1
 refine CU hx.K ["self","n"] (by z_go) (by z_go) (by decide+kernel) (by x_run) ?_
 k_one
 refine⟨by exact AY _,by exact Kl ((Al [_,_] 0x40000000000000000840501405023e838102) hz hl),Fs nd,by rw[B7 _,Bc,hn];rfl,?_⟩
 k_one
 refine⟨by decide,by decide, .str nd.op,rfl,?_⟩
 k_one
theorem VD (hx:XOk X)(A:At L s H){n:Nat}{nd:Node}(hn:s.nodes[n]? =some nd)(hz:s.nodes.length≤1000)(hk:nd.kids.length≤10):Bz X (d+1) (.raw (.ref 150)) [Wu L,B5 n] H fun p H'=>p= .tup (AL nd.kids)∧H'=H:=by
 have hl:n<s.nodes.length:=(A_.mp hn).1
 refine CU hx.K ["self","n"] (by z_go) (by z_go) (by decide+kernel) (by x_run) ?_
 k_one
 refine⟨by exact AY _,by exact Kl ((Al [_,_] 0x40000000000000000840501405023e838102) hz hl),Fs nd,by rw[B7 _,Bc,hn];rfl,?_⟩
 k_one
 refine⟨by simp[AS];exact Aa ‹_› (by decide),by decide,by exact BK _,?_⟩
 exact⟨rfl,rfl⟩
def Ta (up:List Nat):PV→PV
 | .int k=>B5 (BG up k.toNat)
 |p=>p
theorem Mu (up l:List Nat):(AL l).map (Ta up)=AL (l.map (BG up)):=by
 unfold AL
 rw[AW,AW]
 rfl
def cn (up:List Nat)(nd:Node):Node:=⟨nd.op,nd.kids.map (BG up)⟩
theorem Tb (hx:XOk X)(A:At L s H)(hu:LD s.up){n:Nat}{nd:Node}(hn:s.nodes[n]? =some nd)(hz:s.nodes.length≤1000)(hzu:s.up.length≤1000)(hk:nd.kids.length≤10)(hkl:∀k∈nd.kids,k<s.up.length):
  Bz X (d+3) (.raw (.ref 385)) [Ft L,B5 n] H fun p H'=>p=Fs (cn s.up nd)∧Le H H':=by
 refine CU hx.K ["self","n"] (by z_go) (by z_go) (by decide+kernel) (by x_run) ?_
 k_one
 refine(aN hx A hn hz).mv ?_
 k_one
 refine(VD hx A hn hz hk).mv ?_
 k_one
 refine⟨by rw[AS _];exact Aa ‹_› (by decide),?_⟩
 refine CZ (fun m H1=>(∃q,m=[(A8 ".0",none),(A8 "kid",q),(A8 "self",some (Ft L)),(A8 "n",some (B5 n))])∧Le H H1) (Ta s.up) (by rw[AS _];exact Aa ‹_› (by decide)) ⟨⟨_,rfl⟩,Le.refl _⟩ (fun uu uu uu=>trivial)
  (fun x hx' acc m H K ha hI k=>?_) fun m H hI c hc=>?_
 ·refine Aw hI fun z0 le=>?_;clear hI;refine AI z0 fun q z1=>?_;clear z0;subst z1
  refine AB (AZ.mp hx') fun j hj z2=>?_;subst z2
  have A:=A.le le
  k_one
  refine(Hm hx A hu (hkl j hj) hzu).mv ?_
  z_run
  exact⟨ha,k _ _ ⟨⟨_,rfl⟩,le⟩⟩
 ·rw[Mu _ _]
  k_one
  refine⟨by rw[AS _,Ag _];exact Aa ‹_› (by decide),?_⟩
  z_run
  refine⟨by refine(?_:1≤100000);decide,by rw[AS _,Ag _];exact Aa ‹_› (by decide),?_⟩
  z_run
  exact⟨rfl,hI.2.trans (Le.new hc)⟩
end
end
section
open Classical
def Gq (x:Str):Prop:=x="a"∨x="b"∨x="f"∨x="g"
def DR (up:List Nat):List Nat:=(Am up.length).filter fun a=>decide (up.getD a a=a)
section
variable {X:Ctx}{L:Lay}{s:HS}{H:AH}{d:Nat}
theorem GD (n:Nat):((Am ((n:Int) -0).toNat).map fun i=>PV.int (0+BQ i))=AL (Am n):=by
 rw[show((n:Int) -0).toNat=n by x_go]
 refine AN fun i uu=>?_
 simp
theorem Sb (hx:XOk X)(A:At L s H)(hz:s.up.length≤1000):
  Bz X (d+1) (.raw (.ref 331)) [Xa L] H fun p H'=>∃c,p= .loc c∧H c=none∧Le H H'∧H' c=some (.list (AL (DR s.up))):=by
 refine CU hx.K ["self"] (by z_go) (by z_go) (by decide+kernel) (by x_run) ?_
 k_one
 rw[AS _]
 refine⟨by exact Aa ‹_› (by decide),?_⟩
 z_run
 refine⟨by unfold small;exact UD ((Al [_] 0x40000000000000000840503e838002) hz),?_⟩
 z_run
 rw[GD _]
 refine⟨by unfold small;x_go,by unfold small;exact UD ((Al [_] 0x40000000000000000840503e838002) hz),?_⟩
 refine Of (fun m H'=>(∃q,m=[(A8 ".0",none),(A8 "a",q),(A8 "self",some (Xa L))])∧Le H H') (fun p=>match p with| .int k=>if s.up.getD k.toNat k.toNat=k.toNat then some p else none|p=>none)
  (by simp[AS];exact Aa ‹_› (by decide)) ⟨⟨_,rfl⟩,Le.refl _⟩ (fun uu uu uu=>trivial) (fun x hx' acc m H K ha hI k=>?_) fun m H' hI c hc=>?_
 ·refine Aw hI fun z0 le=>?_;clear hI;refine AI z0 fun q z1=>?_;clear z0;subst z1
  refine AB (AZ.mp hx') fun j hj z2=>?_;subst z2
  have hj':=BA.mp hj
  have A:=A.le le
  k_one
  refine⟨by with_unfolding_all exact AY _,by with_unfolding_all exact Kl ((Al [_,_] 0x40000000000000000840501405023e838102) hz hj'),B5 (s.up.getD j j),by rw[B7 _,Oh hj'];rfl,?_⟩
  k_one
  simp only[B7] at k
  by_cases c:s.up.getD j j=j
  ·rw[if_pos c] at k
   rw[decide_eq_true (by with_unfolding_all exact congrArg BQ ((Al [_,_] 0x1011012) c))]
   k_one
   exact⟨ha,k _ _ ⟨⟨_,rfl⟩,le⟩⟩
  ·rw[if_neg c] at k
   rw[decide_eq_false (by with_unfolding_all exact mt Cj ((Al [_,_] 0x51012510122) c))]
   refine XN ?_
   rw[Option.toList_none,Di] at k
   exact k _ _ ⟨⟨_,rfl⟩,le⟩
 ·have e:(AL (Am s.up.length)).filterMap (fun p=>match p with| .int k=>if s.up.getD k.toNat k.toNat=k.toNat then some p else none|p=>none)=AL (DR s.up):=by
   refine(KU ..).trans (?_:_=((Am s.up.length).filter fun i=>decide (s.up.getD i i=i)).map B5)
   induction Am s.up.length with
   |nil=>rfl
   |cons i l ih=>
    by_cases c:s.up.getD i i=i
    ·rw[List.filter_cons_of_pos (p:=fun i=>decide (s.up.getD i i=i)) (decide_eq_true c)]
     refine Eq.trans (EB (b:=B5 i) ?_) (congrArg (B5 i::·) ih)
     exact if_pos c
    ·rw[List.filter_cons_of_neg (p:=fun i=>decide (s.up.getD i i=i)) (by rw[decide_eq_false c];exact AD)]
     refine Eq.trans (List.filterMap_cons_none ?_) ih
     exact if_neg c
  rw[e]
  have hc0:H c=none:=by
   cases z:H c with
   |none=>rfl
   |some o=>rw[hI.2 _ _ z] at hc;exact HJ hc
  z_run
  exact⟨c,rfl,hc0,hI.2.trans (Le.new hc),AH.set_self ..⟩
theorem Sc (hx:XOk X)(A:At L s H)(hz:s.up.length≤1000):
  Bz X (d+2) (.raw (.ref 451)) [Ft L] H fun p H'=>∃c,p= .loc c∧H c=none∧Le H H'∧H' c=some (.list (AL (DR s.up))):=by
 refine CU hx.K ["self"] (by z_go) (by z_go) (by decide+kernel) (by x_run) ?_
 k_one
 exact Sb hx A hz
theorem Ce (l:List Nat):C9 (AL l)=true∧B_ (AL l)=0:=by
 induction l with
 |nil=>exact⟨rfl,rfl⟩
 |cons a l ih=>exact⟨ih.1,congrArg (DG 0) ih.2⟩
theorem K9 {l:List Nat}(h:l.length<64):FS (AL l):=⟨by rw[AS _];exact h,(Ce l).1,by rw[(Ce l).2];decide, .inl fun p hp=>by
 refine IX hp fun j uu=>?_
 exact⟨_,rfl⟩⟩
theorem Mv {n i:Nat}(h:i<n):(HY L n)[i]? =some (.loc (L.lotA i)):=by
 unfold HY
 rw[Bc,Dy h]
 rfl
theorem Sd (hx:XOk X)(A:At L s H)(hu:LD s.up)(hl:s.lots.length=s.up.length){a:Nat}(ha:a<s.up.length)(hz:s.up.length≤1000)(h64:(s.lots.getD (BG s.up a) []).length<64):
  Bz X (d+2) (.raw (.ref 326)) [Xa L,B5 a] H fun p H'=>∃c ws,p= .loc c∧H c=none∧Le H H'∧H' c=some (.list ws)∧ws.Perm (AL (s.lots.getD (BG s.up a) [])):=by
 refine CU hx.K ["self","a"] (by z_go) (by z_go) (by decide+kernel) (by x_run) ?_
 k_one
 refine(Nk hx A hu ha hz).mv ?_
 have hr:BG s.up a<s.lots.length:=by have:=LE hu a;exact(Al [_,_,_,_] 0x1405030022435022112) hl ha this
 k_one
 refine⟨by with_unfolding_all exact AY _,by with_unfolding_all exact Kl ((Al [_,_,_] 0x40000000000000000840501405023e8382022112) hl hz hr),_,by rw[B7 _];exact Mv hr,?_⟩
 k_one
 rw[A.lot hr]
 z_run
 refine⟨K9 h64,fun ws hp hs c hc=>?_⟩
 z_run
 exact Tt c ws rfl hc (Le.new hc) (AH.set_self ..) hp
theorem Se (hx:XOk X)(A:At L s H)(hu:LD s.up)(hl:s.lots.length=s.up.length){a:Nat}(ha:a<s.up.length)(hz:s.up.length≤1000)(h64:(s.lots.getD (BG s.up a) []).length<64):
  Bz X (d+3) (.raw (.ref 458)) [Ft L,B5 a] H fun p H'=>∃c ws,p= .loc c∧H c=none∧Le H H'∧H' c=some (.list ws)∧ws.Perm (AL (s.lots.getD (BG s.up a) [])):=by
 refine CU hx.K ["self","c"] (by z_go) (by z_go) (by decide+kernel) (by x_run) ?_
 k_one
 exact Sd hx A hu hl ha hz h64
end
end
section
open Classical
def Fa:Node:=⟨"",[]⟩
structure Ok (s:HS)(mc:Nat):Prop where
 nN:s.num=s.nodes
 nU:s.up.length=s.nodes.length
 nL:s.lots.length=s.nodes.length
 nW:s.wt.length=s.nodes.length
 nD:s.dp.length=s.nodes.length
 n16:s.nodes.length≤16
 up:LD s.up
 ops:∀nd∈s.nodes,Gq nd.op
 kid:∀(i:Nat) (nd:Node),s.nodes[i]? =some nd→nd.kids.length≤2∧∀k∈nd.kids,k<i
 nd:s.nodes.Nodup
 lot:∀c,c<s.nodes.length→s.up.getD c c=c→(s.lots.getD c []).Nodup∧∀m,m∈s.lots.getD c []↔m<s.nodes.length∧BG s.up m=c
 kn:∀q∈s.known,∃nd:Node,q.1=Fs nd∧Gq nd.op∧nd.kids.length≤2∧(∀k∈nd.kids,k<16)∧∃j,q.2=B5 j∧j<s.nodes.length
 knN:(s.known.map (·.1)).Nodup
 abN:s.abk.Nodup
 ab:∀c,c∈s.abk↔c<s.nodes.length∧s.up.getD c c=c
 abl:∀c∈s.abk,∀m∈s.abl c,m<s.nodes.length
 abT:(s.abk.map fun c=>(s.abl c).length).sum≤2*s.nodes.length
 wa:∀m∈s.wait,m<s.nodes.length
 waL:s.wait.length+32*s.abk.length≤32*s.nodes.length
 edL:s.edges.length+s.abk.length≤s.nodes.length+mc
 foL:s.forest.length+s.abk.length≤s.nodes.length
 mrL:s.mrg.length+s.abk.length≤s.nodes.length
theorem JJ {x:Str}(h:Gq x):Qp x=true:=by focus(revert h;refine fun zo=>Ap zo (fun z0=>?_) fun z0=>?_;rotate_left;clear zo;rcases z0 with rfl|rfl|rfl;rotate_right;clear zo;subst z0)<;>decide+kernel
theorem GE {nd:Node}(h:Gq nd.op):(Fs nd).data=true∧(Fs nd).deep=1∧Ll (Fs nd):=by
 have n:=Ce nd.kids
 refine⟨Ae.mpr ⟨JJ h,n.1⟩,congrArg (fun z=>DG 0 z+1) n.2,_,_,rfl,fun q hq=>?_⟩
 refine IX hq fun j uu=>?_
 exact⟨_,rfl⟩
theorem FD {ps:List PV}(h:∀p∈ps,p.data=true):C9 ps=true:=by
 induction ps with
 |nil=>rfl
 |cons p ps ih=>exact Ae.mpr ⟨h p (Ab ..),ih fun q hq=>h q (Af _ hq)⟩
theorem FE {ps:List PV}{n:Nat}(h:∀p∈ps,p.deep≤n):B_ ps≤n:=by
 induction ps with
 |nil=>exact AM _
 |cons p ps ih=>exact Nat.max_le.mpr ⟨h p (Ab ..),ih fun q hq=>h q (Af _ hq)⟩
set_option tactic.hygienic true in
theorem GF {l:List Nat}{n:Nat}(h:l.Nodup)(hl:∀m∈l,m<n):l.length≤n:=by
 have:∀(n:Nat) (l:List Nat),l.Nodup→(∀m∈l,m<n)→l.length≤n:=by
  intro n
  induction n with
  |zero=>intro l _ hl;induction l using Az with
   |nil=>simp
   |cons a l=>exact absurd (hl a (Ab ..)) (Bj _)
  |succ n ih=>
   intro l h hl
   have h2:=ih (l.erase n) (h.erase n) fun m hm=>by
    have h3:=(List.Nodup.mem_erase_iff h).mp hm
    have:=hl m h3.2
    have:=h3.1
    exact(Al [_,_] 0x1405051012241540502) ‹_› this
   have h4:=List.length_erase (a:=n) (l:=l)
   split at h4<;>(first|exact(Al [_,_,_] 0x415004062121202) h2 h4|exact(Al [_,_,_] 0x4150002121202) h2 h4|omega)
 exact this n l h hl
theorem LF {α:Type}{l:List α}{i:Nat}{x d:α}(h:l[i]? =some x):l.getD i d=x:=by simp[Cd,h]
section
variable {X:Ctx}{L:Lay}{s:HS}{mc:Nat}{H:AH}{d:Nat}
theorem Ok.lotLen (ok:Ok s mc){a:Nat}(ha:a<s.nodes.length):(s.lots.getD (BG s.up a) []).length≤16:=by
 have h1:=LE ok.up a
 have h2:=ok.lot (BG s.up a) (by exact AJ ‹_› ‹_›) (FL ok.up a a (Ak _)).1
 have:=GF h2.1 fun m hm=>((h2.2 m).mp hm).1
 have:=ok.n16
 exact Aa ‹_› ‹_›
def VE (s:HS):PV→PV
 | .int k=>Fs (cn s.up (s.nodes.getD k.toNat Fa))
 |p=>p
theorem Ua (hx:XOk X)(A:At L s H)(ok:Ok s mc){a:Nat}(ha:a<s.nodes.length):
  Bz X (d+4) (.raw (.ref 463)) [Ft L,B5 a] H fun p H'=>∃c ws,p= .loc c∧H c=none∧Le H H'∧H' c=some (.list ws)∧ws.Nodup∧∀x,x∈ws↔∃m∈s.lots.getD (BG s.up a) [],x=Fs (cn s.up (s.nodes.getD m Fa)):=by
 have hlen:=ok.lotLen ha
 have n16:=ok.n16
 have nU:=ok.nU
 have nL:=ok.nL
 have h1:=LE ok.up a
 have hlot:=ok.lot (BG s.up a) (by exact AJ ‹_› ‹_›) (FL ok.up a a (Ak _)).1
 refine CU hx.K ["self","c"] (by z_go) (by z_go) (by decide+kernel) (by x_run) ?_
 k_one
 refine(Se hx A ok.up (by exact(Al [_,_,_] 0x10120122112) nU nL) (by exact(Al [_,_,_] 0x140502112240502) ha nU) (by exact(Al [_,_] 0x3e8380010121028102) n16 nU) (by exact AJ ‹_› (by decide))).mono fun p H1 hq1=>?_
 refine L8 hq1 fun c ws e1 hc le hw hp=>?_;clear hq1
 subst e1
 k_one
 rw[hw]
 k_one
 have wl:ws.length≤16:=by rw[hp.length_eq,AS _];exact hlen
 refine⟨by exact Aa ‹_› (by decide),?_⟩
 refine CZ (fun m H'=>(∃q,m=[(A8 ".0",none),(A8 "n",q),(A8 "self",some (Ft L)),(A8 "c",some (B5 a))])∧Le H1 H') (VE s) (by exact Aa ‹_› (by decide)) ⟨⟨_,rfl⟩,Le.refl _⟩ (fun uu uu hI=>hI.2 _ _ hw)
  (fun x hx' acc m H K ha hI k=>?_) fun m H' hI c2 hc2=>?_
 ·refine Aw hI fun z0 le2=>?_;clear hI;refine AI z0 fun q z1=>?_;clear z0;subst z1
  refine AB (AZ.mp (hp.mem_iff.mp hx')) fun j hj z2=>?_;subst z2
  have hj':=(hlot.2 j).mp hj
  have A:=(A.le le).le le2
  obtain ⟨nd,en⟩:∃nd,s.nodes[j]? =some nd:=⟨_,Ah hj'.1⟩
  have hk:=ok.kid j nd en
  k_one
  refine(Tb hx A ok.up en (by exact Aa ‹_› (by decide)) (by exact(Al [_,_] 0x3e8380010121028102) n16 nU) (by x_go) fun k hk'=>by have:=hk.2 k hk';exact(Al [_,_,_,_,_,_] 0x1405034050251b41b124350322112) nU hj' this).mono fun p H' ⟨e1,le3⟩=>⟨ha,?_⟩
  subst e1
  refine cast (congrArg (fun z=>K (acc++[z]) _ _) ?_) (k _ _ ⟨⟨_,rfl⟩,le2.trans le3⟩)
  refine(?_:Fs (cn s.up (s.nodes.getD (FY (j:Int)) Fa))=_)
  rw[B7 _,LF en];rfl
 ·have each:∀x,x∈ws.map (VE s)↔∃m∈s.lots.getD (BG s.up a) [],x=Fs (cn s.up (s.nodes.getD m Fa)):=fun x=>by
   constructor
   ·intro hx'
    refine IX hx' fun y hy=>?_
    refine IX (hp.mem_iff.mp hy) fun j hj=>?_
    exact⟨j,hj,by refine(?_:Fs (cn s.up (s.nodes.getD (FY (j:Int)) Fa))=_);rw[B7 _];rfl⟩
   ·intro z20;refine AB z20 fun m hm z2=>?_;clear z20;subst z2
    exact AZ.mpr ⟨B5 m,hp.mem_iff.mpr (Bk hm),by refine(?_:Fs (cn s.up (s.nodes.getD (FY (m:Int)) Fa))=_);rw[B7 _];rfl⟩
  have good:∀x,x∈ws.map (VE s)→x.data=true∧x.deep=1∧Ll x:=fun x hx'=>by
   refine AB ((each x).mp hx') fun m hm z2=>?_;subst z2
   have hm':=((hlot.2 m).mp hm).1
   refine GE ?_
   refine(?_:Gq (s.nodes.getD m Fa).op)
   refine ok.ops _ ?_
   rw[LF (Ah hm')]
   exact CG hm'
  k_one
  refine⟨by rw[Ag _];exact Aa ‹_› (by decide),FD fun x h=>(good x h).1,Aa (FE fun x h=>DL (good x h).2.1) (by decide), .inr fun x h=>?_,fun ws2 nd2 mem2 c3 hc3=>?_⟩
  ·refine AB ((each x).mp h) fun m hm z2=>?_;subst z2
   exact⟨_,rfl⟩
  ·have l2:ws2.length≤16:=Aa (Mj nd2 fun x h=>(mem2 x).mp h) (by rw[Ag _];exact wl)
   k_one
   refine⟨⟨by exact AJ ‹_› (by decide),FD fun x h=>(good x ((mem2 x).mp h)).1,Aa (FE fun x h=>DL (good x ((mem2 x).mp h)).2.1) (by decide), .inr fun x h=>(good x ((mem2 x).mp h)).2.2⟩,fun ws3 hp3 hs3 c4 hc4=>?_⟩
   have lef:=((le.trans hI.2).trans (Le.new hc2)).trans (Le.new (o:= .set ws2) hc3)
   have hc0:H c4=none:=by
    cases z:H c4 with
    |none=>rfl
    |some o=>rw[lef _ _ z] at hc4;exact HJ hc4
   exact Uy c4 ws3 rfl hc0 (lef.trans (Le.new hc4)) (AH.set_self ..) (hp3.nodup_iff.mpr nd2) (fun x=>(hp3.mem_iff.trans (mem2 x)).trans (each x))
end
end
section
open Classical
theorem Pv {x:Str}(h:Gq x):∃c,x=⟨#[c]⟩∧c∈([97,98,102,103]:List Nat):=by
 focus(revert h;refine fun zo=>Ap zo (fun z0=>?_) fun z0=>?_;rotate_left;clear zo;rcases z0 with rfl|rfl|rfl;rotate_right;clear zo;subst z0)
 ·exact⟨97,by decide+kernel,by decide⟩
 ·exact⟨98,by decide+kernel,by decide⟩
 ·exact⟨102,by decide+kernel,by decide⟩
 ·exact⟨103,by decide+kernel,by decide⟩
theorem LG {a b:Node}(h:Fs a=Fs b):a=b:=by
 rcases a with⟨o,k⟩
 rcases b with⟨o',k'⟩
 simp only[Fs,PV.tup.injEq,Gh,PV.str.injEq] at h
 revert h;refine fun zq=>Aw zq fun z0 h=>?_;clear zq;subst z0
 have:k=k':=by
  unfold AL at h
  exact(KS (fun x y e=>by injection e with e;x_go)).mp h
 rw[this];rfl
theorem Xd {nodes:List Node}{i:Nat}{nd:Node}(hn:nodes.Nodup)(h:nodes[i]? =some nd):∀{o:Nat},EH (Fs nd) (nodes.mapIdx fun j n=>(Fs n,B5 (j+o)))=some (B5 (i+o)):=by
 induction nodes generalizing i with
 |nil=>simp at h
 |cons a r ih=>
  intro o
  rw[BR] at hn
  rw[MF];rewrite[HR]
  cases i with
  |zero=>
   simp only[C7,Bs] at h
   subst h
   rw[if_pos rfl];rfl
  |succ i=>
   simp only[Cp] at h
   rewrite[if_neg (fun e=>hn.1 (by rw[LG e];exact Cq h))]
   have:=ih hn.2 h (o:=o+1)
   rewrite[show i+1+o=i+(o+1) by exact(Al [_,_] 0x41505140551)];rw[←this]
   congr 1
   refine congrArg (List.mapIdx · r) ?_
   funext j n
   rewrite[show j+1+o=j+(o+1) by exact(Al [_,_] 0x41505140551)];rfl
theorem VF {nd:Node}{es:List (PV×PV)}(h:∀q∈es,q.1≠Fs nd):EH (Fs nd) es=none:=by
 induction es with
 |nil=>rfl
 |cons q es ih=>
  rcases q with⟨k,v⟩
  rewrite[HR];rw[if_neg (h _ (Ab ..)),ih fun z hz=>h z (Af _ hz)];rfl
theorem LH {k v:PV}{es:List (PV×PV)}(h:∀q∈es,q.1≠k):put k v es=es++[(k,v)]:=by
 induction es with
 |nil=>rfl
 |cons q es ih=>
  rcases q with⟨k',v'⟩
  rewrite[Li];rw[if_neg (h _ (Ab ..)),ih fun z hz=>h z (Af _ hz)]
  rfl
theorem Oi {nodes:List Node}:(GC nodes).map (·.1)=nodes.map Fs:=by
 have:∀(o:Nat) (l:List Node),(l.mapIdx fun i n=>(Fs n,B5 (i+o))).map (·.1)=l.map Fs:=by
  intro o l
  induction l generalizing o with
  |nil=>rfl
  |cons a r ih=>
   rw[MF,B9,B9]
   have:=ih (o+1)
   have e:(fun(i:Nat) (n:Node)=>(Fs n,B5 (i+1+o)))=fun i n=>(Fs n,B5 (i+(o+1))):=by funext i n;rewrite[show i+1+o=i+(o+1) by exact(Al [_,_] 0x41505140551)];rfl
   rw[e,this];rfl
 exact this 0 nodes
theorem Pw {nodes:List Node}{nd:Node}(h:nd∉nodes):∀q∈GC nodes,q.1≠Fs nd:=fun q hq e=>by
 have:q.1∈(GC nodes).map (·.1):=Bk hq
 rw[Oi] at this
 refine AB (AZ.mp this) fun n hn e2=>?_
 exact h (LG (e2.trans e)▸hn)
theorem VG {nodes:List Node}(h:∀nd∈nodes,Gq nd.op)(hn:nodes.Nodup)(hl:nodes.length≤1000):Bw (GC nodes):=by
 unfold Bw
 rw[Oi]
 refine⟨FD fun p hp=>?_,?_,by simp[GC];exact Aa ‹_› (by decide),FE fun p hp=>?_⟩
 ·refine IX hp fun n hn=>?_
  exact(GE (h n hn)).1
 ·exact(Cg).mpr (hn.imp fun h e=>h (LG e))
 ·refine IX hp fun n hn=>?_
  rw[(GE (h n hn)).2.1];decide
theorem Tc {nd:Node}(h:Gq nd.op):Cz (Fs nd):=⟨(GE h).1,by rw[(GE h).2.1];decide,rfl⟩
theorem VH {c:Nat}(h:c∈([97,98,102,103]:List Nat)):c=97∨c=98∨c=102∨c=103:=by
 simpa only[Aq,Be,or_false] using h
section
variable {X:Ctx}{L:Lay}{s:HS}{mc:Nat}{H:AH}{d:Nat}
theorem YR (hx:XOk X){x:Str}(h:Gq x):Bz X (d+1) (.raw (.ref 79)) [.str x] H fun p H'=>p= .bool true∧Le H H':=by
 refine AB (Pv h) fun c z1 hc=>?_;subst z1
 refine CU hx.K ["text"] (by z_go) (by z_go) (by decide+kernel) (by x_run) ?_
 z_run
 have hs:(⟨#[c]⟩:Str)≠A8 "":=fun e=>by
  have:=congrArg (fun x:Str=>x.cps.size) e
  rw[show(A8 "").cps.size=0 by decide+kernel] at this
  cases this
 refine⟨JJ h,by decide+kernel,AM _,AM _,?_⟩
 rewrite[decide_eq_false (fun e=>hs (PV.str.inj e))]
 z_run
 refine⟨by refine(?_:1≤1000);decide,?_,?_⟩
 ·focus(refine Ap (VH hc) (fun z0=>?_) fun z0=>?_;rotate_left;rcases z0 with rfl|rfl|rfl;rotate_right;subst z0)<;>decide+kernel
 rw[show(⟨#[c]⟩:Str).cps.toList.map (fun c=>PV.str ⟨#[c]⟩)=[PV.str ⟨#[c]⟩] from rfl];rewrite[Ky]
 refine⟨trivial,?_⟩
 z_run
 refine⟨rfl,c,rfl,hc,?_⟩
 z_run
 have ho:(EY (A8 "()[]{},:") ⟨#[c]⟩ 0 (A8 "()[]{},:").length 1).isEmpty=true:=by
  focus(refine Ap (VH hc) (fun z0=>?_) fun z0=>?_;rotate_left;rcases z0 with rfl|rfl|rfl;rotate_right;subst z0)<;>decide+kernel
 rw[ho]
 z_run
 refine XN ?_
 refine⟨trivial,?_⟩
 intro c1 h1
 z_run
 intro c2 h2
 z_run
 have ne:c1≠c2:=fun e=>by rw[←e,AH.set_self] at h2;exact HJ h2
 refine Ic _ _ ((AH.set_ne ne).trans (AH.set_self ..)) (AH.set_self ..) rfl rfl (AM _) (AM _) ?_
 z_run
 exact⟨rfl,(Le.new h1).trans (Le.new h2)⟩
theorem Ub (hx:XOk X){x:Str}(h:Gq x):Bz X (d+2) (.raw (.ref 117)) [Wu L, .str x] H fun p H'=>p= .none∧Le H H':=by
 refine CU hx.K ["self","op"] (by z_go) (by z_go) (by decide+kernel) (by x_run) ?_
 z_run
 refine(YR hx h).m1 fun H1 le=>?_
 refine AB (Pv h) fun c z1 hc=>?_;subst z1
 z_run
 refine⟨by decide,by decide,c,rfl,?_⟩
 z_run
 have hs:(⟨#[c]⟩:Str)≠A8 "?":=fun e=>by
  have:=congrArg (fun x:Str=>x.cps.toList) e
  rw[show(A8 "?").cps.toList=[63] by decide+kernel] at this
  focus(refine Ap (VH hc) (fun z0=>?_) fun z0=>?_;rotate_left;rcases z0 with rfl|rfl|rfl;rotate_right;subst z0)<;>cases this
 refine⟨JJ h,by decide+kernel,AM _,AM _,?_⟩
 rewrite[decide_eq_false (fun e=>hs (PV.str.inj e))]
 z_run
 exact⟨rfl,le⟩
theorem Sf {nodes:List Node}{nd:Node}:GC (nodes++[nd])=GC nodes++[(Fs nd,B5 nodes.length)]:=by
 unfold GC
 rw[List.mapIdx_concat];rfl
theorem Oj (l:List Int):Dn (l.map .int)=some l:=by
 induction l with
 |nil=>rfl
 |cons a l ih=>rw[B9];refine(?_:(Dn (l.map _)).map _=_);rw[ih];rfl
def VI (l:List Int):PV→PV
 | .int k=> .int (l.getD k.toNat 0)
 |p=>p
theorem Px (l:List Int)(ks:List Nat):(AL ks).map (VI l)=(ks.map fun j=>l.getD j 0).map .int:=by
 unfold AL
 rw[AW,AW]
 rfl
theorem VJ (l:List Int):∃i is,Dn (l.map .int++[.int 0])=some (i::is)∧is.length=l.length:=by
 induction l using Az with
 |nil=>exact Gn 0 ([]) rfl rfl
 |cons a l=>
  refine Gn a (l++[0]) ?_ AC
  exact(congrArg Dn (Bi (f:=PV.int) (l₁:=a::l) (l₂:=[0])).symm).trans (Oj (a::l++[0]))
theorem R9 {l:List Int}{i:Nat}(h:i<l.length):(l.map PV.int)[FY (i:Int)]? =some (.int (l.getD i 0)):=by
 refine(?_:(l.map PV.int)[i]? =_)
 rw[Bc,Ah h,Av,Ah h]
 rfl
def Qi (q:PV)(ks:List Nat)(H:AH):Prop:=q= .tup (AL ks)∨∃l,q= .loc l∧H l=some (.list (AL ks))
theorem Qi.tup {q:PV}{ks:List Nat}(hq:Qi q ks H)(hl:ks.length≤100000){Q:QE}(h:Q (.tup (AL ks)) H):ZN X .tuple [q] H Q:=by
 focus(revert hq;refine fun zo=>Ap zo (fun z0=>?_) fun z0=>?_;rotate_left;clear zo;refine AB z0 fun l z1 hl'=>?_;clear z0;subst z1;rotate_right;clear zo;subst z0)
 ·exact h
 ·refine(?_:oL (H l) (Y7 H Q))
  rw[hl']
  exact⟨by rw[AS _];exact hl,h⟩
def Ka (s:HS)(nd:Node)(w dd:Int):HS:={s with nodes:=s.nodes++[nd],num:=s.nodes++[nd],numN:=s.numN+1,wt:=s.wt++[w],dp:=s.dp++[dd]}
theorem YS (hx:XOk X)(A:At L s H)(ok:Ok s mc){nd:Node}{q:PV}(hop:Gq nd.op)(hq:Qi q nd.kids H)(hk2:nd.kids.length≤2)(hk:∀k∈nd.kids,k<s.nodes.length):
  Bz X (d+3) (.raw (.ref 110)) [Wu L, .str nd.op,q] H fun p H'=>
   (∃i,s.nodes[i]? =some nd∧p=B5 i∧Le H H')∨(nd∉s.nodes∧p=B5 s.nodes.length∧∃w dd,At L (Ka s nd w dd) H'∧Step L s H L (Ka s nd w dd) H'):=by
 have n16:=ok.n16
 refine CU hx.K ["self","op","kids"] (by z_go) (by z_go) (by decide+kernel) (by x_run) ?_
 z_run
 have hkl:(AL nd.kids).length≤2:=by rw[AS _];exact hk2
 refine hq.tup (X:=X) (by exact Aa ‹_› (by decide)) ?_
 z_run
 refine⟨by refine(?_:1≤100000);decide,by exact Aa ‹_› (by decide),?_⟩
 k_one
 have nN:=ok.nN
 have kO:=Tc hop
 have kE:=VG ok.ops ok.nd (by exact Aa ‹_› (by decide):s.nodes.length≤1000)
 have kE':Bw (GC s.num):=by rw[nN];exact kE
 refine⟨kO,kE',?_⟩
 by_cases hm:nd∈s.nodes
 ·refine AI (Fv.mp hm) fun i hi=>?_
  have e:EH (Fs nd) (GC s.num)=some (B5 i):=by rw[nN];exact Xd ok.nd hi (o:=0)
  rewrite[show EH (.tup ([PV.str nd.op]++AL nd.kids)) (GC s.num)=_ from e]
  k_one
  refine⟨kO,kE',_,e,?_⟩
  z_run
  exact .inl ⟨i,hi,rfl,Le.refl _⟩
 have e:EH (Fs nd) (GC s.num)=none:=by rw[nN];exact VF (Pw hm)
 rewrite[show EH (.tup ([PV.str nd.op]++AL nd.kids)) (GC s.num)=_ from e]
 k_one
 refine(Ub hx hop).mono fun p H1 hq2=>?_
 refine Aw hq2 fun uu le=>?_;clear hq2
 have A:=A.le le
 z_run
 refine⟨by refine(?_:(AL nd.kids).length+1≤100000);exact AJ ‹_› (by decide),Ak _,CF (AM _),?_⟩
 z_run
 refine⟨by refine(?_:(AL nd.kids).length≤100000);exact Aa ‹_› (by decide),?_⟩
 refine Ex (fun pre m H'=>H'=H1∧∃q',m=[(A8 "self",some (Wu L)),(A8 "op",some (PV.str nd.op)),(A8 "kids",some q),(A8 "node",some (Fs nd)),(A8 "kid",q')]) (all:=AL nd.kids)
  (fun uu uu uu uu=>trivial) (fun pre x rest m H' ee hI K kn kb kr=>?_) (fun m H' hI=>?_) (pre:=[]) rfl ⟨rfl,_,rfl⟩
 ·refine Aw hI fun z0 zr=>?_;clear hI;subst z0;refine AI zr fun q' z1=>?_;clear zr;subst z1
  refine AB (AZ.mp (show x∈AL nd.kids by rw[ee];exact DV _ (Ab ..))) fun j hj z2=>?_;subst z2
  have:=hk j hj
  k_one
  refine⟨by rw[Ag _];exact Aa ‹_› (by decide),?_⟩
  z_run
  rw[Ag _,decide_eq_true (C_.mpr this)]
  z_run
  exact(kn _ _ ⟨rfl,_,rfl⟩).1
 ·refine Aw hI fun z0 zr=>?_;clear hI;subst z0;refine AI zr fun q' z1=>?_;clear zr;subst z1
  k_one
  refine⟨by rw[Ag _];exact Aa ‹_› (by decide),?_⟩
  k_one
  refine⟨kO,kE',?_⟩
  z_run
  generalize hH:AH.set H' (L.low 10) _=H2
  refine Aw (A.turn 10 hH {s with num:=s.nodes++[nd],numN:=s.numN+1} (by
   rw[e,KR,if_neg Eo,Ag _,nN,LH (Pw hm)]
   exact congrArg (PO.dict · (s.numN+1)) Sf.symm) rfl rfl rfl rfl rfl) fun A S1=>?_
  k_one
  refine⟨by rw[Ag _];exact Aa ‹_› (by decide),?_⟩
  z_run
  generalize hH3:AH.set H2 (L.low 9) _=H3
  refine Aw (A.turn 9 hH3 {s with num:=s.nodes++[nd],numN:=s.numN+1,nodes:=s.nodes++[nd]} (congrArg PO.list (Bi (f:=Fs) (l₂:=[nd])).symm) rfl rfl rfl rfl rfl) fun A S2=>?_
  k_one
  refine⟨by refine(?_:(AL nd.kids).length+1≤100000);exact AJ ‹_› (by decide),Ak _,CF (AM _),?_⟩
  z_run
  refine⟨by refine(?_:(AL nd.kids).length≤100000);exact Aa ‹_› (by decide),?_⟩
  refine CZ (items:=AL nd.kids) (fun m H'=>(∃z,m=[(A8 ".0",none),(A8 "kid",z),(A8 "self",some (Wu L)),(A8 "op",some (PV.str nd.op)),(A8 "kids",some q),(A8 "node",some (Fs nd)),(A8 "kid",q')])∧H'=H3) (VI s.wt)
   (by refine(?_:(AL nd.kids).length≤100000);exact Aa ‹_› (by decide)) ⟨⟨_,rfl⟩,rfl⟩ (fun uu uu uu=>trivial) (fun x hx' acc m H K ha hI k=>?_) fun m H' hI c hc=>?_
  ·refine Aw hI fun z0 z1=>?_;clear hI;refine AI z0 fun z z1=>?_;clear z0;subst z1;subst z1
   refine AB (AZ.mp hx') fun j hj z2=>?_;subst z2
   have:=hk j hj
   k_one
   refine⟨AY _,by exact Kl ((Al [_,_] 0x40000000000000000840501405021028102) n16 this),_,R9 (l:=s.wt) (by rw[ok.nW];exact this),?_⟩
   z_run
   exact⟨ha,k _ _ ⟨⟨_,rfl⟩,rfl⟩⟩
  refine Aw hI fun uu z1=>?_;clear hI;subst z1
  rw[Px _ _]
  z_run
  refine⟨_,Oj _,by rw[Ag _];exact Aa ‹_› (by decide),?_⟩
  have l1:=Le.new (o:= .list ((nd.kids.map fun j=>s.wt.getD j 0).map .int)) hc
  have A:=A.le l1
  k_one
  refine⟨by rw[Ag _,ok.nW];exact Aa ‹_› (by decide),?_⟩
  z_run
  generalize hw:(1:Int)+_=w
  generalize hH4:AH.set H' c _=H4 at l1 A ⊢
  generalize hH5:AH.set H4 (L.low 11) _=H5
  refine Aw (A.turn 11 hH5 {s with num:=s.nodes++[nd],numN:=s.numN+1,nodes:=s.nodes++[nd],wt:=s.wt++[w]} (congrArg PO.list (Bi (f:=PV.int) (l₂:=[w])).symm) rfl rfl rfl rfl rfl) fun A S3=>?_
  k_one
  refine⟨by refine(?_:(AL nd.kids).length+1≤100000);exact AJ ‹_› (by decide),Ak _,CF (AM _),?_⟩
  z_run
  refine⟨by refine(?_:(AL nd.kids).length≤100000);exact Aa ‹_› (by decide),?_⟩
  refine CZ (items:=AL nd.kids) (fun m H'=>(∃z,m=[(A8 ".0",none),(A8 "kid",z),(A8 "self",some (Wu L)),(A8 "op",some (PV.str nd.op)),(A8 "kids",some q),(A8 "node",some (Fs nd)),(A8 "kid",q')])∧H'=H5) (VI s.dp)
   (by refine(?_:(AL nd.kids).length≤100000);exact Aa ‹_› (by decide)) ⟨⟨_,rfl⟩,rfl⟩ (fun uu uu uu=>trivial) (fun x hx' acc m H K ha hI k=>?_) fun m H' hI c2 hc2=>?_
  ·refine Aw hI fun z0 z1=>?_;clear hI;refine AI z0 fun z z1=>?_;clear z0;subst z1;subst z1
   refine AB (AZ.mp hx') fun j hj z2=>?_;subst z2
   have:=hk j hj
   k_one
   refine⟨AY _,by exact Kl ((Al [_,_] 0x40000000000000000840501405021028102) n16 this),_,R9 (l:=s.dp) (by rw[ok.nD];exact this),?_⟩
   z_run
   exact⟨ha,k _ _ ⟨⟨_,rfl⟩,rfl⟩⟩
  refine Aw hI fun uu z1=>?_;clear hI;subst z1
  rw[Px _ _]
  z_run
  intro c3 hc3
  z_run
  have ne:c2≠c3:=fun e=>by rw[←e,AH.set_self] at hc3;exact HJ hc3
  refine Tt _ _ ((AH.set_ne ne).trans (AH.set_self ..)) (AH.set_self ..) (by rw[Ag _,Ag _];exact Aa ‹_› (by decide)) (by decide) (fun c4 hc4=>?_)
  have l2:=((Le.new hc2).trans (Le.new (o:= .list [PV.int 0]) hc3)).trans (Le.new (o:= .list ((nd.kids.map fun j=>s.dp.getD j 0).map .int++[PV.int 0])) hc4)
  have A:=A.le l2
  z_run
  refine BT (VJ (nd.kids.map fun j=>s.dp.getD j 0)) fun i is ei li=>?_
  refine FQ i is ei (by rw[li,Ag _];exact Aa ‹_› (by decide)) ?_
  k_one
  refine⟨by rw[Ag _,ok.nD];exact Aa ‹_› (by decide),?_⟩
  z_run
  generalize hdd:(1:Int)+_=dd
  generalize AH.set _ c4 _=H6 at l2 A ⊢
  generalize hH7:AH.set H6 (L.low 12) _=H7
  refine Aw (A.turn 12 hH7 (Ka s nd w dd) (congrArg PO.list (Bi (f:=PV.int) (l₂:=[dd])).symm) rfl rfl rfl rfl rfl) fun A S4=>?_
  k_one
  have hll:(Ka s nd w dd).nodes.length=s.nodes.length+1:=AC
  refine⟨by rw[Ag _,hll];exact AJ ‹_› (by decide),?_⟩
  z_run
  refine .inr ⟨hm,congrArg PV.int (by rw[Ag _,hll];x_go),w,dd,A,?_⟩
  exact(Step.le le).trans (S1.trans (S2.trans ((Step.le l1).trans (S3.trans ((Step.le l2).trans S4)))))
end
end
section
open Classical
def Lay.putLot (L:Lay)(i:Nat)(c:Addr):Lay:={L with lotA:=fun j=>if j=i then c else L.lotA j}
def Lay.putAbv (L:Lay)(i:Nat)(c:Addr):Lay:={L with abvA:=fun j=>if j=i then c else L.abvA j}
section
variable {L:Lay}{s:HS}{H:AH}
theorem Uc {i:Nat}{c:Addr}(j:Cl):(L.putLot i c).at_ j=if j= .lot i then c else L.at_ j:=by
 induction j using Mine.Internal.Cl.casesOn with
 |lot j=>
  refine(?_:(if j=i then c else L.lotA j)=_)
  by_cases h:j=i
  ·rw[if_pos h,if_pos (congrArg _ h)];rfl
  ·rw[if_neg h];rewrite[if_neg (fun e=>h (Cl.lot.inj e))];rfl
 |_=>exact(if_neg nofun).symm
theorem Py {i:Nat}{c:Addr}(j:Cl):(L.putAbv i c).at_ j=if j= .abv i then c else L.at_ j:=by
 induction j using Mine.Internal.Cl.casesOn with
 |abv j=>
  refine(?_:(if j=i then c else L.abvA j)=_)
  by_cases h:j=i
  ·rw[if_pos h,if_pos (congrArg _ h)];rfl
  ·rw[if_neg h];rewrite[if_neg (fun e=>h (Cl.abv.inj e))];rfl
 |_=>exact(if_neg nofun).symm
theorem Ud {i n:Nat}{c:Addr}(h:n≤i):HY (L.putLot i c) n=HY L n:=
 AN fun j hj=>congrArg PV.loc (if_neg (show¬j=i from fun e=>BO _ (Bt (BA.mp hj) (e▸h))))
theorem Pz {i:Nat}{ks:List Nat}{c:Addr}(h:i∉ks):E4 (L.putAbv i c) ks=E4 L ks:=
 AN fun j hj=>congrArg (fun z=>(B5 j,PV.loc z)) (if_neg (show¬j=i from fun e=>h (e▸hj)))
theorem At.place (A:At L s H){k:Cl}(j0:Nat){c:Addr}{o1 o2:PO}{H3:AH}{L':Lay}(hL:∀j,L'.at_ j=if j=k then c else L.at_ j)(s':HS)(hc:H c=none)(hH:(H.set c o1).set (L.low j0) o2=H3)(ho1:o1=Du L' s' k)
  (ho2:o2=Du L' s' (.lo j0))(hl:low L' s'=(low L s).set j0 (Du L' s' (.lo j0)))(hj:(M3 1 j0&&M3 j0 15)=true)(hk:∀i,k≠ .lo i)(hv1:∀i,i<s'.lots.length→Cl.lot i≠k→i<s.lots.length∧s'.lots.getD i []=s.lots.getD i [])
  (hv2:∀i,i∈s'.abk→Cl.abv i≠k→i∈s.abk∧s'.abl i=s.abl i):At L' s' H3∧Step L s H L' s' H3:=by
 subst hH ho1 ho2
 have hj0:1≤j0∧j0≤15:=⟨BC (Ae.mp hj).1,BC (Ae.mp hj).2⟩
 have v0:HZ s (.lo j0):=hj0
 have nek:∀j,HZ s j→L.at_ j≠c:=fun j v e=>by have:=A.cell j v;rw[e,hc] at this;exact CC this
 have ne0:L.low j0≠c:=nek _ v0
 have old:∀j,HZ s' j→j≠k→HZ s j∧(j≠ .lo j0→Du L' s' j=Du L s j):=fun j v e=>by
  induction j using Mine.Internal.Cl.casesOn with
  |lo i=>
   refine⟨v,fun n=>?_⟩
   refine(?_:(low L' s').getD i _=(low L s).getD i _)
   rw[hl,Av];rewrite[G4 (fun e=>n (by rw[e];rfl))];rw[←Av];rfl
  |lot i=>exact⟨(hv1 i v e).1,fun uu=>congrArg (fun l=>PO.list (AL l)) (hv1 i v e).2⟩
  |abv i=>exact⟨(hv2 i v e).1,fun uu=>congrArg (fun l=>PO.list (AL l)) (hv2 i v e).2⟩
 have put_ne:∀{j},j≠k→L'.at_ j=L.at_ j:=fun h=>(hL _).trans (if_neg h)
 have put_eq:L'.at_ k=c:=(hL _).trans (if_pos rfl)
 refine⟨⟨fun j v=>?_,fun i j vi vj e=>?_⟩,fun a o e n=>?_,fun a ⟨j,v,e⟩=>?_⟩
 ·by_cases q:j=k
  ·subst q
   rw[put_eq,AH.set_ne (Ck ne0),AH.set_self _ _ _];rfl
  ·rw[put_ne q]
   have vj:=old j v q
   by_cases q0:j= .lo j0
   ·subst q0;exact AH.set_self ..
   ·rewrite[AH.set_ne (show L.at_ j≠L.low j0 from fun e=>q0 (A.inj _ _ vj.1 v0 e))];rw[AH.set_ne (nek j vj.1),A.cell j vj.1,vj.2 q0];rfl
 ·by_cases qi:i=k
  ·by_cases qj:j=k
   ·rw[qi,qj];rfl
   ·rw[qi,put_eq,put_ne qj] at e
    exact absurd e.symm (nek j (old j vj qj).1)
  ·by_cases qj:j=k
   ·rw[qj,put_eq,put_ne qi] at e
    exact absurd e (nek i (old i vi qi).1)
   ·rw[put_ne qi,put_ne qj] at e
    exact A.inj i j (old i vi qi).1 (old j vj qj).1 e
 ·have n0:a≠L.low j0:=fun q=>n ⟨_,v0,q⟩
  have nc:a≠c:=fun q=>by rw[q,hc] at e;exact CC e
  rw[AH.set_ne n0,AH.set_ne nc]
  exact e
 ·by_cases q:j=k
  ·rw[q,put_eq] at e
   exact .inr (e▸hc)
  ·rw[put_ne q] at e
   exact .inl ⟨j,(old j v q).1,e⟩
end
section
variable {X:Ctx}{L:Lay}{s:HS}{mc:Nat}{H:AH}{d:Nat}
def MS (s:HS):HS:={s with up:=s.up++[s.up.length],lots:=s.lots++[[s.up.length]]}
theorem FF (l:List Nat)(n:Nat):AL (l++[n])=AL l++[B5 n]:=Bi ..
theorem Mw (L:Lay)(n:Nat):(HY L n).length=n:=(Ag ..).trans (AO ..)
theorem Sg (L:Lay)(n:Nat):HY L (n+1)=HY L n++[.loc (L.lotA n)]:=by unfold HY;rw[IR,Bi];rfl
theorem YT (hx:XOk X)(A:At L s H)(hl:s.lots.length=s.up.length)(hz:s.up.length≤1000):
  Bz X (d+1) (.raw (.ref 298)) [Xa L] H fun p H'=>p=B5 s.up.length∧∃c,At (L.putLot s.up.length c) (MS s) H'∧Step L s H (L.putLot s.up.length c) (MS s) H':=by
 refine CU hx.K ["self"] (by z_go) (by z_go) (by decide+kernel) (by x_run) ?_
 k_one
 refine⟨by rw[AS _];exact Aa ‹_› (by decide),?_⟩
 k_one
 refine⟨by rw[AS _];exact Aa ‹_› (by decide),?_⟩
 z_run
 generalize hH:AH.set H (L.low 13) _=H2
 refine Aw (A.turn 13 hH {s with up:=s.up++[s.up.length]} (by
  rw[AS _]
  exact congrArg PO.list (FF _ _).symm) rfl rfl rfl rfl rfl) fun A S1=>?_
 k_one
 refine⟨by rw[Mw _ _];refine(?_:s.lots.length≤_);exact(Al [_,_] 0x186a058003e8381021012) hl hz,?_⟩
 z_run
 intro c hc
 z_run
 have l3:=Le.new (o:= .list [.int ((HY L s.lots.length).length:Int)]) hc
 have A0:=A
 have A:=A.le l3
 k_one
 refine⟨by rw[Mw _ _];refine(?_:s.lots.length≤_);exact(Al [_,_] 0x186a058003e8381021012) hl hz,?_⟩
 z_run
 generalize hH3:AH.set _ (L.low 14) _=H3
 rw[Mw,show({s with up:=s.up++[s.up.length]}:HS).lots.length=s.up.length from hl] at hH3
 refine Aw (A0.place 14 (k:= .lot s.up.length) (L':=L.putLot s.up.length c) Uc (MS s) hc hH3 (congrArg (fun l=>PO.list (AL l)) (show[s.up.length]=(s.lots++[[s.up.length]]).getD s.up.length [] by
   rw[Av, ←hl,DX];rfl)) (congrArg PO.list (by
   refine(?_:_=HY (L.putLot s.up.length c) (s.lots++[[s.up.length]]).length)
   rw[AC,Bf,Sg _ _];rewrite[Ud (by exact(Al [_,_] 0x1001012) hl)];rw[hl]
   exact congrArg (fun z=>HY L s.up.length++[PV.loc z]) (show c=if s.up.length=s.up.length then c else _ from(if_pos rfl).symm))) rfl rfl (fun uu=>nofun) (fun i hi ne=>by
   have hi':i<s.lots.length+1:=by simpa only[MS,AC,Bf] using hi
   have q:i<s.lots.length:=DI (CS hi') fun e=>ne (by rw[e,hl];rfl)
   refine⟨q,?_⟩
   refine(?_:(s.lots++[[s.up.length]]).getD i []=s.lots.getD i [])
   rw[Av,Av,Ca q];rfl) (fun i hi uu=>⟨hi,rfl⟩)) fun A S2=>?_
 rewrite[show H3 (L.low 3)=_ from A.c3]
 k_one
 have hu:(MS s).up.length=s.up.length+1:=AC
 refine⟨by rw[AS _,hu];exact AJ ‹_› (by decide),?_⟩
 z_run
 exact⟨congrArg PV.int (by rw[AS _,hu];x_go),c,A,S1.trans S2⟩
end
end
section
open Classical
theorem aO {ws:List PV}{x y:PV}(h:ws.Perm [x,y]):ws=[x,y]∨ws=[y,x]:=by
 have hl:=h.length_eq
 rcases ws with _|⟨u,_|⟨v,_|_⟩⟩
 ·cases hl
 ·cases hl
 ·have hu:=h.subset (Ab ..)
  rw[Aq,Ao] at hu
  focus(revert hu;refine fun zo=>Ap zo (fun z0=>?_) fun z0=>?_;rotate_left;clear zo;subst z0;rotate_right;clear zo;subst z0)
  ·rw[JT.mp ((OI _).mp h)];exact .inl rfl
  ·rw[JT.mp ((OI _).mp (h.trans (GT _ _ _)))];exact .inr rfl
 ·cases hl
theorem Td {a b:Nat}(h:Wq (B5 a) (B5 b)=false):b≤a:=by
 have:decide ((a:Int)<(b:Int))=false:=h
 have:=of_decide_eq_false this
 x_go
theorem Xe {ws:List PV}{x y:Nat}(h:ws.Perm [B5 x,B5 y])(hs:FT ws):∃k g,ws=[B5 k,B5 g]∧k≤g∧((k=x∧g=y)∨(k=y∧g=x)):=by
 focus(refine Ap (aO h) (fun z0=>?_) fun z0=>?_;rotate_left;subst z0;rotate_right;subst z0)
 ·exact FQ x y rfl (Td ((KC.mp hs).1 (B5 y) (Ao.mpr rfl))) (.inl ⟨rfl,rfl⟩)
 ·exact FQ y x rfl (Td ((KC.mp hs).1 (B5 x) (Ao.mpr rfl))) (.inr ⟨rfl,rfl⟩)
theorem FM {α:Type}{l:List α}{i:Nat}{x d:α}(h:i<l.length):(l.set i x).getD i d=x:=by
 rw[Av,List.getElem?_set_self h];rfl
theorem FV {α:Type}{l:List α}{i j:Nat}{x d:α}(h:i≠j):(l.set i x).getD j d=l.getD j d:=by
 rw[Av,G4 h, ←Av];rfl
theorem Ra (l:List Nat)(i v:Nat):(AL l).set i (B5 v)=AL (l.set i v):=List.map_set.symm
theorem Ol (a b:List Nat):AL (a++b)=AL a++AL b:=Bi ..
section
variable {X:Ctx}{L:Lay}{s:HS}{mc:Nat}{H:AH}{d:Nat}
def Om (s:HS)(k g:Nat):HS:={s with up:=s.up.set g k,lots:=s.lots.set k (s.lots.getD k []++s.lots.getD g []),mrg:=s.mrg++[.tup [B5 k,B5 g]]}
def aP (s:HS)(a b k g:Nat):Prop:=(k=BG s.up a∧g=BG s.up b)∨(k=BG s.up b∧g=BG s.up a)
theorem Ok.two (ok:Ok s mc){a b k g:Nat}(h:aP s a b k g)(ha:a<s.up.length)(hb:b<s.up.length):(k<s.up.length∧s.up.getD k k=k)∧g<s.up.length∧s.up.getD g g=g:=by
 have h1:=FL ok.up a a (Ak _)
 have h2:=FL ok.up b b (Ak _)
 have l1:=AJ h1.2 ha
 have l2:=AJ h2.2 hb
 focus(revert h;refine fun zo=>Ap zo (fun z0=>?_) fun z0=>?_;rotate_left;clear zo;revert z0;refine fun zq=>Aw zq fun z0 z1=>?_;clear zq;subst z0;subst z1;rotate_right;clear zo;revert z0;refine fun zq=>Aw zq fun z0 z1=>?_;clear zq;subst z0;subst z1)
 ·exact⟨⟨l1,h1.1⟩,l2,h2.1⟩
 ·exact⟨⟨l2,h2.1⟩,l1,h1.1⟩
theorem Ok.lot16 (ok:Ok s mc){c:Nat}(h1:c<s.up.length)(h2:s.up.getD c c=c):(s.lots.getD c []).length≤16:=by
 refine Aw (ok.lot c (ok.nU▸h1) h2) fun n h=>?_
 exact Aa (GF n fun m hm=>((h m).mp hm).1) ok.n16
theorem VK (hx:XOk X)(A:At L s H)(ok:Ok s mc){a b:Nat}(ha:a<s.up.length)(hb:b<s.up.length):
  Bz X (d+2) (.raw (.ref 319)) [Xa L,B5 a,B5 b] H fun p H'=>
   (BG s.up a=BG s.up b∧p= .none∧Le H H')∨∃k g,k<g∧aP s a b k g∧p= .tup [B5 k,B5 g]∧At L (Om s k g) H'∧Step L s H L (Om s k g) H':=by
 have hz:s.up.length≤16:=ok.nU▸ok.n16
 have hlz:s.lots.length=s.up.length:=ok.nL.trans ok.nU.symm
 have hm:s.mrg.length≤16:=Aa (Fe ok.mrL) ok.n16
 refine CU hx.K ["self","a","b"] (by z_go) (by z_go) (by decide+kernel) (by x_run) ?_
 k_one
 refine(Nk hx A ok.up ha (by exact Aa ‹_› (by decide))).mv ?_
 k_one
 refine(Nk hx A ok.up hb (by exact Aa ‹_› (by decide))).mv ?_
 z_run
 intro c hc
 z_run
 refine⟨K9 (l:=[BG s.up a,BG s.up b]) (by refine(?_:2<64);decide),fun ws hp hs c2 hc2=>?_⟩
 refine Cv (Xe hp hs) fun k g z2 hkg hor=>?_;subst z2
 have l1:=(Le.new hc).trans (Le.new (o:= .list [B5 k,B5 g]) hc2)
 z_run
 have A:=A.le l1
 generalize AH.set _ c2 _=H2 at l1 A ⊢
 by_cases q:k=g
 ·rw[YP q]
  z_run
  exact .inl ⟨by focus(revert hor;refine fun zo=>Ap zo (fun z0=>?_) fun z0=>?_;rotate_left;clear zo;refine Aw z0 fun h1 h2=>?_;clear z0;rotate_right;clear zo;refine Aw z0 fun h1 h2=>?_;clear z0)<;>(rw[←h1, ←h2,q];rfl),rfl,l1⟩
 rw[aM q]
 refine DF (ok.two hor ha hb) fun z0 hg rg=>?_;refine Aw z0 fun hk rk=>?_;clear z0
 k_one
 refine⟨by exact AY _,by exact Kl ((Al [_,_] 0x40000000000000000840501405021028102) hz hg),by rw[AS _];exact hg,by rw[AS _];exact Aa ‹_› (by decide),?_⟩
 z_run
 generalize hH3:AH.set H2 (L.low 13) _=H3
 refine Aw (A.turn 13 hH3 {s with up:=s.up.set g k} (congrArg PO.list (Ra ..)) rfl rfl rfl rfl rfl) fun A S1=>?_
 k_one
 refine⟨AY _,by exact Kl ((Al [_,_] 0x40000000000000000840501405021028102) hz hk),_,Mv (i:=k) (by refine(?_:k<s.lots.length);exact(Al [_,_,_] 0x140502405022112) hlz hk),?_⟩
 have ak:=A.lot (i:=k) (by refine(?_:k<s.lots.length);exact(Al [_,_,_] 0x140502405022112) hlz hk)
 have ag:=A.lot (i:=g) (by refine(?_:g<s.lots.length);exact(Al [_,_,_] 0x140502405022112) hlz hg)
 z_run
 rw[ak]
 k_one
 refine⟨AY _,by exact Kl ((Al [_,_] 0x40000000000000000840501405021028102) hz hg),_,Mv (i:=g) (by refine(?_:g<s.lots.length);exact(Al [_,_,_] 0x140502405022112) hlz hg),?_⟩
 z_run
 rw[ak]
 z_run
 rw[ag]
 z_run
 have lk:=ok.lot16 hk rk
 have lg:=ok.lot16 hg rg
 refine⟨by rw[AS _];refine(?_:(s.lots.getD k []).length≤_);exact Aa ‹_› (by decide),by rw[AS _];refine(?_:(s.lots.getD g []).length≤_);exact Aa ‹_› (by decide),?_⟩
 z_run
 generalize hH4:AH.set H3 (L.lotA k) _=H4
 refine Aw (A.turn' (k:= .lot k) hH4 {s with up:=s.up.set g k,lots:=s.lots.set k (s.lots.getD k []++s.lots.getD g [])} (congrArg PO.list (by
   refine(?_:_=AL ((s.lots.set k (s.lots.getD k []++s.lots.getD g [])).getD k []))
   rewrite[FM (by exact(Al [_,_,_] 0x140502405022112) hlz hk)];rw[Ol _ _];rfl)) (by refine(?_:k<s.lots.length);exact(Al [_,_,_] 0x140502405022112) hlz hk) (fun j v=>by
   induction j using Mine.Internal.Cl.casesOn with
   |lot i=>exact(ER (as:=s.lots)▸v:i<s.lots.length)
   |_=>exact v) (fun j v hne=>by
   induction j using Mine.Internal.Cl.casesOn with
   |lo i=>
    refine(?_:(low L _).getD i _=(low L _).getD i _)
    unfold low
    rw[ER];rfl
   |lot i=>
    refine(?_:PO.list (AL ((s.lots.set k _).getD i []))=PO.list (AL (s.lots.getD i [])))
    rewrite[FV (fun e=>hne (by rw[e];rfl))];rfl
   |abv i=>rfl)) fun A S2=>?_
 k_one
 refine⟨by refine(?_:s.mrg.length≤_);exact Aa ‹_› (by decide),?_⟩
 z_run
 generalize hH5:AH.set H4 (L.low 15) _=H5
 refine Aw (A.turn 15 hH5 (Om s k g) rfl rfl rfl rfl rfl rfl) fun A S3=>?_
 exact .inr ⟨k,g,DI hkg q,hor,rfl,A,(Step.le l1).trans (S1.trans (S2.trans S3))⟩
end
end
section
open Classical
theorem EM {a b:Nat}(h:B5 a=B5 b):a=b:=by injection h with h;x_go
section
variable {L:Lay}{ks:List Nat}
theorem PC:(E4 L ks).map (·.1)=AL ks:=by unfold E4 AL;rw[AW];rfl
theorem Nl (hn:ks.Nodup)(hl:ks.length≤1000):Bw (E4 L ks):=by
 unfold Bw
 rw[PC]
 refine⟨(Ce ks).1,?_,by simp[E4];exact Aa ‹_› (by decide),by rw[(Ce ks).2];decide⟩
 exact Cg.mpr (hn.imp fun h e=>h (EM e))
theorem Ei (n:Nat):Cz (B5 n):=⟨rfl,AM _,rfl⟩
theorem Jh {c:Nat}(h:c∈ks):EH (B5 c) (E4 L ks)=some (.loc (L.abvA c)):=by
 induction ks with
 |nil=>cases h
 |cons k ks ih=>
  refine(?_:(if B5 k=B5 c then some _ else EH _ (E4 L ks))=_)
  by_cases e:k=c
  ·subst e;rw[if_pos rfl];rfl
  ·rewrite[if_neg fun z=>e (EM z)]
   exact ih ((Aq.mp h).resolve_left fun z=>e z.symm)
theorem VL {g:Nat}:Wp (B5 g) (E4 L ks)=E4 L (ks.erase g):=by
 induction ks with
 |nil=>rfl
 |cons k ks ih=>
  refine(?_:(if B5 k=B5 g then E4 L ks else(B5 k,PV.loc (L.abvA k))::Wp (B5 g) (E4 L ks))=_)
  rw[Nf]
  by_cases e:k=g
  ·subst e;rw[if_pos rfl,if_pos (by simp)];rfl
  ·rewrite[if_neg fun z=>e (EM z)];rw[if_neg (by simpa using e),ih];rfl
theorem VM {k:Nat}{c:Addr}(hn:ks.Nodup)(h:k∈ks):put (B5 k) (.loc c) (E4 L ks)=E4 (L.putAbv k c) ks:=by
 induction ks with
 |nil=>cases h
 |cons q ks ih=>
  rw[BR] at hn
  refine(?_:(if B5 q=B5 k then(B5 q,PV.loc c)::E4 L ks else(B5 q,PV.loc (L.abvA q))::put (B5 k) (.loc c) (E4 L ks))=(B5 q,PV.loc (if q=k then c else L.abvA q))::E4 (L.putAbv k c) ks)
  by_cases e:q=k
  ·subst e;rw[if_pos rfl,if_pos rfl,Pz hn.1];rfl
  ·rewrite[if_neg fun z=>e (EM z)];rw[if_neg e];rewrite[ih hn.2 ((Aq.mp h).resolve_left fun z=>e z.symm)];rfl
end
section
variable {up:List Nat}
theorem KA {k g:Nat}(i:Nat)(hg:g<up.length):(up.set g k).getD i i=if i=g then k else up.getD i i:=by
 by_cases h:i=g
 ·subst h;rw[if_pos rfl,FM hg];rfl
 ·rw[if_neg h];rewrite[FV (fun e=>h e.symm)];rfl
theorem Rb (hu:LD up){k g:Nat}(hg:g<up.length)(hkg:k<g):LD (up.set g k):=fun i=>by
 rw[KA i hg]
 split
 ·exact(Al [_,_,_] 0x1002112240502) hkg ‹_›
 ·exact hu i
theorem Sh (hu:LD up){k g:Nat}(hk:up.getD k k=k)(hgr:up.getD g g=g)(hkg:k<g)(hg:g<up.length):∀n m,m≤n→BG (up.set g k) m=if BG up m=g then k else BG up m:=by
 have hu':=Rb hu hg hkg
 have rk:BG (up.set g k) k=k:=Ey (by rw[KA k hg];rewrite[if_neg (by exact(Al [_,_] 0x51012140502) hkg)];rw[hk];rfl)
 intro n
 induction n with
 |zero=>
  intro m h
  have:m≠g:=by exact(Al [_,_,_] 0x510127002142502) hkg h
  have e:up.getD m m=m:=by have:=hu m;exact(Al [_,_] 0x10110027102) h this
  rw[Ey e,if_neg this,Ey (by rw[KA m hg,if_neg this,e];rfl)];rfl
 |succ n ih=>
  intro m h
  by_cases e:up.getD m m=m
  ·rw[Ey e]
   by_cases q:m=g
   ·subst q
    rw[if_pos rfl,H_ hu',KA m hg,if_pos rfl,rk];rfl
   ·rw[if_neg q,Ey (by rw[KA m hg,if_neg q,e];rfl)];rfl
  ·have q:m≠g:=fun z=>e (by rw[z];exact hgr)
   have:=hu m
   rw[H_ hu',KA m hg,if_neg q];rewrite[ih _ (by exact(Al [_,_,_] 0x1002002520122415202) h e this)];rw[←H_ hu];rfl
end
def On (s:HS)(k g:Nat)(e f:PV):HS:={s with up:=s.up.set g k,lots:=s.lots.set k (s.lots.getD k []++s.lots.getD g []),mrg:=s.mrg++[.tup [B5 k,B5 g]],edges:=s.edges++[e],forest:=s.forest++[f],abk:=s.abk.erase g,abN:=s.abN+1,abl:=(fun c=>if c=k then s.abl k++s.abl g else s.abl c),wait:=s.wait++s.abl g}
theorem Oo {f:Nat→Nat}{ks:List Nat}{k:Nat}(h:k∈ks):f k≤(ks.map f).sum:=by
 induction ks with
 |nil=>cases h
 |cons q ks ih=>
  rw[B9,BX]
  refine Ap (Aq.mp h) (fun z0=>?_) fun h=>?_;subst z0
  ·exact(Al [_,_] 0x10500)
  ·have:=ih h;exact(Al [_,_,_] 0x215002002) this
theorem Ue {f:Nat→Nat}{ks:List Nat}{g:Nat}(h:g∈ks):((ks.erase g).map f).sum+f g=(ks.map f).sum:=by
 induction ks with
 |nil=>cases h
 |cons q ks ih=>
  rw[Nf]
  by_cases e:q=g
  ·subst e;rw[if_pos (by simp),B9,BX];exact(Al [_,_] 0x151051)
  ·rw[if_neg (by simpa using e),B9,BX,B9,BX]
   have:=ih ((Aq.mp h).resolve_left fun z=>e z.symm)
   exact(Al [_,_,_,_] 0x305210551321512) this
theorem Rc {f:Nat→Nat}{ks:List Nat}{k v:Nat}(hn:ks.Nodup)(h:k∈ks):(ks.map fun c=>if c=k then f k+v else f c).sum=(ks.map f).sum+v:=by
 induction ks with
 |nil=>cases h
 |cons q ks ih=>
  rw[BR] at hn
  rw[B9,BX,B9,BX]
  by_cases e:q=k
  ·subst e
   rw[if_pos rfl]
   have:(ks.map fun c=>if c=q then f q+v else f c)=ks.map f:=AN fun c hc=>if_neg fun z:c=q=>hn.1 (z▸hc)
   rw[this];exact(Al [_,_,_] 0x12055210551)
  ·rw[if_neg e];rewrite[ih hn.2 ((Aq.mp h).resolve_left fun z=>e z.symm)]
   exact(Al [_,_,_] 0x21055215051)
theorem Ok.join {s:HS}{mc:Nat}(ok:Ok s mc){k g:Nat}(hkg:k<g)(hk:s.up.getD k k=k)(hg:s.up.getD g g=g)(hgl:g<s.up.length)(e f:PV):Ok (On s k g e f) mc:=by
 have nU:=ok.nU
 have nL:=ok.nL
 have gm:g∈s.abk:=(ok.ab g).mpr ⟨by exact(Al [_,_,_] 0x140501212240502) hgl nU,hg⟩
 have km:k∈s.abk:=(ok.ab k).mpr ⟨by exact(Al [_,_,_,_] 0x140501312342502240502) hkg hgl nU,hk⟩
 have el:(s.abk.erase g).length=s.abk.length-1:=EA gm
 have pos:0<s.abk.length:=IA gm
 have km':k∈s.abk.erase g:=(Js (by exact(Al [_,_] 0x51012140502) hkg)).mpr km
 have rm:=Sh ok.up hk hg hkg hgl
 have hT:=ok.abT
 have se:=Ue (f:=fun c=>(s.abl c).length) gm
 have gT:(s.abl g).length≤(s.abk.map fun c=>(s.abl c).length).sum:=Oo (f:=fun c=>(s.abl c).length) gm
 have n16:=ok.n16
 have mem':∀c,c∈s.abk.erase g↔c<s.nodes.length∧(s.up.set g k).getD c c=c:=fun c=>by
  rewrite[ok.abN.mem_erase_iff,ok.ab c];rw[KA c hgl]
  by_cases q:c=g
  ·subst q;rw[if_pos rfl];exact⟨fun h=>absurd rfl h.1,fun h=>by exact(Al [_,_,_,_] 0x211405035001230311405032043502) hkg h⟩
  ·rw[if_neg q];exact⟨fun h=>h.2,fun h=>⟨q,h⟩⟩
 refine{nN:=ok.nN,nU:=by refine(?_:(s.up.set g k).length=_);rw[ER];exact ok.nU,nL:=by refine(?_:(s.lots.set k _).length=_);rw[ER];exact ok.nL,nW:=ok.nW,nD:=ok.nD,n16:=ok.n16,up:=Rb ok.up hgl hkg,ops:=ok.ops,kid:=ok.kid,nd:=ok.nd,lot:=?_,kn:=ok.kn,knN:=ok.knN,abN:=ok.abN.erase g,ab:=mem',abl:=?_,abT:=?_,wa:=?_,waL:=?_,edL:=?_,foL:=?_,mrL:=?_}
 ·intro c hc hr
  have hc':c<s.nodes.length:=hc
  have hcm:=(mem' c).mpr ⟨hc',hr⟩
  have cg:c≠g:=(ok.abN.mem_erase_iff.mp hcm).1
  have hr':s.up.getD c c=c:=((ok.ab c).mp (ok.abN.mem_erase_iff.mp hcm).2).2
  have lc:=ok.lot c hc' hr'
  have lg:=ok.lot g (by exact(Al [_,_,_] 0x140501212240502) hgl nU) hg
  by_cases q:c=k
  ·subst q
   refine(?_:((s.lots.set c (s.lots.getD c []++s.lots.getD g [])).getD c []).Nodup∧∀m,m∈(s.lots.set c (s.lots.getD c []++s.lots.getD g [])).getD c []↔m<s.nodes.length∧BG (s.up.set g c) m=c)
   rewrite[FM (by exact(Al [_,_,_] 0x140502405022112) nL hc')]
   refine⟨BJ.mpr ⟨lc.1,lg.1,fun a ha b hb z=>?_⟩,fun m=>?_⟩
   ·have h1:=((lc.2 a).mp ha).2
    have h2:=((lg.2 b).mp hb).2
    rw[←z] at h2
    exact(Al [_,_,_] 0x512120212140502) hkg h1 h2
   ·rewrite[B6,lc.2,lg.2];rw[rm m m (Ak _)]
    constructor
    ·rintro (⟨h1,h2⟩|⟨h1,h2⟩)
     ·exact⟨h1,by rw[h2,if_neg cg];rfl⟩
     ·exact⟨h1,by rw[h2,if_pos rfl];rfl⟩
    ·intro z20;refine Aw z20 fun h1 h2=>?_;clear z20
     split at h2
     ·exact .inr ⟨h1,by assumption⟩
     ·exact .inl ⟨h1,h2⟩
  ·refine(?_:((s.lots.set k (s.lots.getD k []++s.lots.getD g [])).getD c []).Nodup∧∀m,m∈(s.lots.set k (s.lots.getD k []++s.lots.getD g [])).getD c []↔m<s.nodes.length∧BG (s.up.set g k) m=c)
   rewrite[FV (fun z=>q z.symm)]
   refine⟨lc.1,fun m=>?_⟩
   rewrite[lc.2];rw[rm m m (Ak _)]
   refine and_congr_right fun uu=>?_
   constructor
   ·intro h;rw[h,if_neg cg];rfl
   ·intro h
    split at h
    ·exact absurd h.symm q
    ·exact h
 ·intro c hc m hm
  have hc':=(ok.abN.mem_erase_iff.mp hc).2
  have hm':m∈(if c=k then s.abl k++s.abl g else s.abl c):=hm
  split at hm'
  ·refine Ap (B6.mp hm') (fun h=>?_) fun h=>?_
   ·exact ok.abl k km m h
   ·exact ok.abl g gm m h
  ·exact ok.abl c hc' m hm'
 ·refine(?_:((s.abk.erase g).map fun c=>(if c=k then s.abl k++s.abl g else s.abl c).length).sum≤2*s.nodes.length)
  have:((s.abk.erase g).map fun c=>(if c=k then s.abl k++s.abl g else s.abl c).length)=(s.abk.erase g).map fun c=>if c=k then(s.abl k).length+(s.abl g).length else(s.abl c).length:=AN fun c uu=>by
   by_cases q:c=k
   ·rw[if_pos q,if_pos q,AC];rfl
   ·rw[if_neg q,if_neg q];rfl
  rw[this,Rc (f:=fun c=>(s.abl c).length) (ok.abN.erase g) km']
  exact(Al [_,_,_,_] 0x221910503105122219302) hT se
 ·intro m hm
  refine Ap (B6.mp hm) (fun h=>?_) fun h=>?_
  ·exact ok.wa m h
  ·exact ok.abl g gm m h
 ·refine(?_:(s.wait++s.abl g).length+32*(s.abk.erase g).length≤32*s.nodes.length)
  rw[AC,el]
  have:=ok.waL
  exact(Al [_,_,_,_,_] 0x3202942620291055032029220290502102830241b102321941b02247502) pos hT gT n16 this
 ·refine(?_:(s.edges++[e]).length+(s.abk.erase g).length≤_)
  rw[AC,el]
  have:=ok.edL
  simp only[Bf]
  refine(?_:s.edges.length+1+(s.abk.length-1)≤s.nodes.length+mc)
  exact(Al [_,_,_,_] 0x3254164055032510502147502) pos this
 ·refine(?_:(s.forest++[f]).length+(s.abk.erase g).length≤_)
  rw[AC,el]
  have:=ok.foL
  simp only[Bf]
  refine(?_:s.forest.length+1+(s.abk.length-1)≤s.nodes.length)
  exact(Al [_,_,_] 0x241640550210502147502) pos this
 ·refine(?_:(s.mrg++[_]).length+(s.abk.erase g).length≤_)
  rw[AC,el]
  have:=ok.mrL
  simp only[Bf]
  refine(?_:s.mrg.length+1+(s.abk.length-1)≤s.nodes.length)
  exact(Al [_,_,_] 0x241640550210502147502) pos this
end
section
open Classical
def Si (s:HS)(e:PV):HS:={s with edges:=s.edges++[e]}
theorem VN {L:Lay}{ks:List Nat}{k n:Nat}{c:Addr}(hn:ks.Nodup)(h:k∈ks):PO.dict (put (B5 k) (.loc c) (E4 L ks)) (if(EH (B5 k) (E4 L ks)).isSome then n else n+1)= .dict (E4 (L.putAbv k c) ks) n:=by
 rw[Jh h,VM hn h];rfl
def ed (s:HS)(f:PV):HS:={s with forest:=s.forest++[f]}
def fj (s:HS)(l:List Nat):HS:={s with wait:=s.wait++l}
def cP (s:HS)(g:Nat):HS:={s with abk:=s.abk.erase g,abN:=s.abN+1}
theorem At.er {L:Lay}{s:HS}{H:AH}(A:At L s H){g:Nat}{o:PO}{H2:AH}(hH:H.set (L.low 7) o=H2)(ho:o= .dict (E4 L (s.abk.erase g)) (s.abN+1))(gm:g∈s.abk):
  (At L (cP s g) H2∧Step L s H L (cP s g) H2)∧H2 (L.abvA g)=some (.list (AL (s.abl g))):=by
 refine⟨A.turn' (k:= .lo 7) hH (cP s g) ho (by decide:1≤7∧7≤15) (fun j v=>?_) fun j uu hne=>?_,?_⟩
 ·induction j using Mine.Internal.Cl.casesOn with
  |abv i=>exact List.mem_of_mem_erase v
  |_=>exact v
 ·induction j using Mine.Internal.Cl.casesOn with
  |lo i=>
   refine(?_:((low L s).set 7 (PO.dict (E4 L (s.abk.erase g)) (s.abN+1))).getD i _=(low L s).getD i _)
   rewrite[FV (fun e=>hne (by rw[e];rfl))];rfl
  |_=>rfl
 ·rw[←hH];rewrite[AH.set_ne (show L.abvA g≠L.low 7 from fun z=>nomatch A.inj (.abv g) (.lo 7) gm (by decide:1≤7∧7≤15) z)]
  exact A.abv gm
theorem Dg {α:Type}(l:List α)(a:α):(l++[a]).length=l.length+1:=AC ..
theorem Ok.edg {s:HS}{mc:Nat}(ok:Ok s mc)(e:PV):Ok (Si s e) (mc+1):=by
 have h:(s.edges++[e]).length+s.abk.length≤s.nodes.length+(mc+1):=by
  rw[Dg _ _]
  have:=ok.edL
  exact(Al [_,_,_,_] 0x4352514055032510502) this
 exact{ok with edL:=h}
section
variable {X:Ctx}{L:Lay}{s:HS}{mc:Nat}{H:AH}{d:Nat}
theorem Ok.ab16 (ok:Ok s mc):s.abk.length≤16:=Aa (GF ok.abN fun c hc=>((ok.ab c).mp hc).1) ok.n16
theorem Ok.abl32 (ok:Ok s mc){c:Nat}(hc:c∈s.abk):(s.abl c).length≤32:=
 Aa (Oo (f:=fun c=>(s.abl c).length) hc) (Aa ok.abT (JY 2 ok.n16))
theorem VO (hx:XOk X)(A:At L s H)(ok:Ok s mc)(hmc:mc≤1000){a b:Nat}{r:PV}(ha:a<s.up.length)(hb:b<s.up.length):
  Bz X (d+3) (.raw (.ref 430)) [Ft L,B5 a,B5 b,r] H fun p H'=>
   (BG s.up a=BG s.up b∧p= .bool false∧At L (Si s (.tup [B5 a,B5 b,r])) H'∧Step L s H L (Si s (.tup [B5 a,B5 b,r])) H')∨
   ∃k g f c,k<g∧aP s a b k g∧p= .bool true∧At (L.putAbv k c) (On s k g (.tup [B5 a,B5 b,r]) f) H'∧Step L s H (L.putAbv k c) (On s k g (.tup [B5 a,B5 b,r]) f) H':=by
 have n16:=ok.n16
 have nU:=ok.nU
 have hE:s.edges.length≤2000:=by have:=ok.edL;exact(Al [_,_,_,_] 0x7d038001253050210282023e838102) hmc n16 this
 have hF:s.forest.length≤16:=Aa (Fe ok.foL) ok.n16
 refine CU hx.K ["self","a","b","reason"] (by z_go) (by z_go) (by decide+kernel) (by x_run) ?_
 k_one
 refine⟨by exact Aa ‹_› (by decide),?_⟩
 z_run
 generalize hH1:AH.set H (L.low 4) _=H1
 refine Aw (A.turn 4 hH1 (Si s (.tup [B5 a,B5 b,r])) rfl rfl rfl rfl rfl rfl) fun A S1=>?_
 have ok1:Ok (Si s (.tup [B5 a,B5 b,r])) (mc+1):=ok.edg _
 k_one
 refine(VK hx A ok1 ha hb).mono fun p H2 h=>?_
 focus(revert h;refine fun zo=>Ap zo (fun z0=>?_) fun z0=>?_;rotate_left;clear zo;refine L8 z0 fun k g hkg hor z4 A S2=>?_;clear z0;subst z4;rotate_right;clear zo;refine DF z0 fun er z1 le=>?_;clear z0;subst z1)
 ·z_run
  exact .inl ⟨er,rfl,A.le le,S1.trans (Step.le le)⟩
 have hor:aP s a b k g:=hor
 refine DF (ok.two hor ha hb) fun z0 hg rg=>?_;refine Aw z0 fun hk rk=>?_;clear z0
 have gm:g∈s.abk:=(ok.ab g).mpr ⟨nU▸hg,rg⟩
 have km:k∈s.abk:=(ok.ab k).mpr ⟨nU▸hk,rk⟩
 have hab:=ok.ab16
 have gl:=ok.abl32 gm
 have kl:=ok.abl32 km
 k_one
 refine⟨by refine(?_:(s.edges++[_]).length≤_);rw[Dg _ _];exact AJ ‹_› (by decide),?_⟩
 k_one
 refine⟨by refine(?_:s.forest.length≤_);exact Aa ‹_› (by decide),?_⟩
 z_run
 generalize hf:PV.int (_-1)=f
 generalize hH3:AH.set H2 (L.low 5) _=H3
 refine Aw (A.turn 5 hH3 (ed (Om (Si s (.tup [B5 a,B5 b,r])) k g) f) rfl rfl rfl rfl rfl rfl) fun A S3=>?_
 k_one
 have kE:Bw (E4 L s.abk):=Nl ok.abN (by exact Aa ‹_› (by decide))
 have wl:s.wait.length≤512:=by have:=ok.waL;exact(Al [_,_,_] 0x2003800120292202905021028102) n16 this
 refine⟨Ei g,kE,_,Jh gm,?_⟩
 have ag:=A.abv (c:=g) gm
 k_one
 rw[ag]
 z_run
 refine⟨by rw[AS _];exact Aa wl (by decide),by rw[AS _];exact Aa gl (by decide),?_⟩
 z_run
 generalize hH4:AH.set H3 (L.low 8) _=H4
 refine Aw (A.turn 8 hH4 (fj (ed (Om (Si s (.tup [B5 a,B5 b,r])) k g) f) (s.abl g)) (congrArg PO.list (Ol ..).symm) rfl rfl rfl rfl rfl) fun A S4=>?_
 k_one
 refine⟨Ei k,kE,_,Jh km,?_⟩
 k_one
 refine⟨Ei g,kE,_,Jh gm,?_⟩
 z_run
 rw[VL]
 generalize hH5:AH.set H4 (L.low 7) _=H5
 refine Aw (A.er hH5 rfl gm) fun z0 ag5=>?_;refine Aw z0 fun A S5=>?_;clear z0
 have km':k∈s.abk.erase g:=(Js (BL hkg)).mpr km
 have kE':Bw (E4 L (s.abk.erase g)):=Nl (ok.abN.erase g) (by rw[EA gm];exact(Al [_] 0x3e83840601028002) hab)
 refine Tt (AL (s.abl k)) (AL (s.abl g)) (A.abv (c:=k) km') ag5 (by rw[AS _];refine(?_:(s.abl k).length≤_);exact Aa ‹_› (by decide)) (by rw[AS _];exact Aa ‹_› (by decide)) (fun c hc=>?_)
 z_run
 have A5:=A
 have A:=A.le (Le.new (o:= .list (AL (s.abl k)++AL (s.abl g))) hc)
 k_one
 refine⟨Ei k,kE',?_⟩
 z_run
 generalize hH6:AH.set _ (L.low 7) _=H6
 refine Aw (A5.place 7 (k:= .abv k) (L':=L.putAbv k c) Py (On s k g (.tup [B5 a,B5 b,r]) f) hc hH6
  (congrArg PO.list ((Ol ..).symm.trans (congrArg AL (if_pos rfl).symm)))
  (VN (ok.abN.erase g) km') rfl rfl (fun uu=>nofun) (fun i hi uu=>⟨hi,rfl⟩) (fun i hi ne=>⟨hi,if_neg fun e=>ne (congrArg _ e)⟩)) fun A S6=>?_
 exact .inr ⟨k,g,f,c,hkg,hor,rfl,A,S1.trans (S2.trans (S3.trans (S4.trans (S5.trans S6))))⟩
end
end
section
open Classical
theorem Qj {k u:PV}{es:List (PV×PV)}(h:EH k es=some u):(k,u)∈es:=by
 induction es with
 |nil=>exact CC h
 |cons q es ih=>
  rcases q with⟨k',v'⟩
  rw[HR] at h
  by_cases e:k'=k
  ·rw[if_pos e] at h;injection h with h;subst e h;exact Ab ..
  ·rw[if_neg e] at h;exact Af _ (ih h)
theorem VP {k:PV}{es:List (PV×PV)}(h:EH k es=none):∀q∈es,q.1≠k:=by
 induction es with
 |nil=>exact fun uu h=>absurd h Be
 |cons q es ih=>
  rcases q with⟨k',v'⟩
  rw[HR] at h
  by_cases e:k'=k
  ·rw[if_pos e] at h;exact HJ h
  ·rw[if_neg e] at h
   intro q hq
   refine Ap (Aq.mp hq) (fun z0=>?_) fun hq=>?_;subst z0
   ·exact e
   ·exact ih h q hq
def LI:List Nat→Nat
 |[]=>0
 |[a]=>1+a
 |a::b::_=>17+16*a+b
def Oq (x:Str):Nat:=if x="a" then 0 else if x="b" then 1 else if x="f" then 2 else 3
def XO:PV→Nat
 | .tup (.str x::r)=>Oq x+4*LI (r.map fun p=>match p with| .int k=>k.toNat|_=>0)
 |_=>0
theorem KB (nd:Node):XO (Fs nd)=Oq nd.op+4*LI nd.kids:=by
 refine(?_:Oq nd.op+4*LI ((AL nd.kids).map _)=_)
 congr 3
 unfold AL
 rw[AW]
 exact(AN fun a uu=>B7 a).trans (JP _)
def Os (nd:Node):Prop:=Gq nd.op∧nd.kids.length≤2∧∀k∈nd.kids,k<16
theorem JK {x y:Str}(hx:Gq x)(hy:Gq y)(h:Oq x=Oq y):x=y∧Oq x<4:=by
 unfold Oq at*
 have nab:("b":Str)≠"a":=by decide+kernel
 have nfa:("f":Str)≠"a":=by decide+kernel
 have nfb:("f":Str)≠"b":=by decide+kernel
 have nga:("g":Str)≠"a":=by decide+kernel
 have ngb:("g":Str)≠"b":=by decide+kernel
 have ngf:("g":Str)≠"f":=by decide+kernel
 focus(revert hx;refine fun zo=>Ap zo (fun z0=>?_) fun z0=>?_;rotate_left;clear zo;rcases z0 with rfl|rfl|rfl;rotate_right;clear zo;subst z0)<;>focus(revert hy;refine fun zo=>Ap zo (fun z0=>?_) fun z0=>?_;rotate_left;clear zo;rcases z0 with rfl|rfl|rfl;rotate_right;clear zo;subst z0)<;>simp[nab,nfa,nfb,nga,ngb,ngf] at h ⊢
theorem JL {x y:List Nat}(hx:x.length≤2∧∀k∈x,k<16)(hy:y.length≤2∧∀k∈y,k<16)(h:LI x=LI y):x=y∧LI x<280:=by
 match x,y,hx,hy,h with
 |[],[],_,_,h=>exact⟨rfl,by exact BK _⟩
 |[],[b],_,_,h=>have h:0=1+b:=h;x_go
 |[],[b,c],_,_,h=>have h:0=17+16*b+c:=h;x_go
 |[a],[],_,_,h=>have h:1+a=0:=h;x_go
 |[a],[b],hx,_,h=>have:=hx.2 a (by exact Ab);have h:1+a=1+b:=h;exact⟨by rewrite[show a=b by exact(Al [_,_] 0x10114504512) h];rfl,by refine(?_:1+a<280);exact(Al [_] 0x11838404550102840502) this⟩
 |[a],[b,c],hx,_,h=>have:=hx.2 a (by exact Ab);have h:1+a=17+16*b+c:=h;x_go
 |[a,b],[],_,_,h=>have h:17+16*a+b=0:=h;x_go
 |[a,b],[c],hx,hy,h=>have:=hy.2 c (by exact Ab);have h:17+16*a+b=1+c:=h;x_go
 |[a,b],[c,e],hx,hy,h=>
  have h1:=hx.2 a (by exact Ab);have h2:=hx.2 b (by simp);have h3:=hy.2 c (by exact Ab);have h4:=hy.2 e (by simp)
  have h:17+16*a+b=17+16*c+e:=h
  have:a=c:=by exact(Al [_,_,_,_] 0x10110284350210284250231102911285520102911285512) h h2 h4
  have:b=e:=by exact(Al [_,_,_,_] 0x101321213102911285502102911285512) h this
  subst a b
  exact⟨rfl,by refine(?_:17+16*c+e<280);exact(Al [_,_] 0x11838410102911285550102841502102840502) h1 h2⟩
 |_::_::_::_,_,hx,_,_=>have:=hx.1;simp at this;
 |_,_::_::_::_,_,hy,_=>have:=hy.1;simp at this;
theorem VQ {ps:List PV}(hn:ps.Nodup)(h:∀p∈ps,∃nd,p=Fs nd∧Os nd):ps.length≤1200:=by
 have h1:(ps.map XO).Nodup:=by
  refine Cg.mpr (hn.imp_of_mem fun ha hb ne e=>?_)
  refine L6 (h _ ha) fun x z1 x1 x2 x3=>?_;subst z1
  refine L6 (h _ hb) fun y z1 y1 y2 y3=>?_;subst z1
  rw[KB,KB] at e
  have o1:=(JK x1 x1 rfl).2
  have o2:=(JK y1 y1 rfl).2
  have:=(JK x1 y1 (by x_go)).1
  have:=(JL ⟨x2,x3⟩ ⟨y2,y3⟩ (by exact(Al [_,_,_,_] 0x101418435024184250214193504192512) e o1 o2)).1
  rcases x with⟨xo,xk⟩
  rcases y with⟨yo,yk⟩
  dsimp only at*
  subst xo xk
  exact ne rfl
 have:=GF (n:=1200) h1 fun m hm=>by
  refine IX hm fun p hp=>?_
  refine L6 (h _ hp) fun x z1 x1 x2 x3=>?_;subst z1
  rw[KB _]
  have o1:=(JK x1 x1 rfl).2
  have o2:=(JL ⟨x2,x3⟩ ⟨x2,x3⟩ rfl).2
  exact(Al [_,_] 0x4b038414190550118384150241840502) o1 o2
 rwa [Ag] at this
theorem Ok.knOk {s:HS}{mc:Nat}(ok:Ok s mc):Bw s.known:=by
 have sm:∀p∈s.known.map (·.1),∃nd,p=Fs nd∧Os nd:=fun p hp=>by
  refine IX hp fun q hq=>?_
  refine Rq (ok.kn q hq) fun nd e h1 h2 h3 uu=>?_
  exact⟨nd,e,h1,h2,h3⟩
 have:=VQ ok.knN sm
 rw[Ag] at this
 refine⟨FD fun p hp=>?_,ok.knN,by exact Aa ‹_› (by decide),FE fun p hp=>?_⟩
 ·refine CP (sm p hp) fun nd z1 h uu=>?_;subst z1
  exact(GE h).1
 ·refine CP (sm p hp) fun nd z1 h uu=>?_;subst z1
  rw[(GE h).2.1];decide
def XP (s:HS)(nd:Node)(n:Nat):HS:={s with known:=s.known++[(Fs nd,B5 n)],knownN:=s.knownN+1}
theorem Ok.know {s:HS}{mc:Nat}(ok:Ok s mc){nd:Node}{n:Nat}(h:Os nd)(hn:n<s.nodes.length)(he:EH (Fs nd) s.known=none):Ok (XP s nd n) mc:=by
 have h1:∀q∈s.known++[(Fs nd,B5 n)],∃nd:Node,q.1=Fs nd∧Gq nd.op∧nd.kids.length≤2∧(∀k∈nd.kids,k<16)∧∃j,q.2=B5 j∧j<s.nodes.length:=fun q hq=>by
  refine Ap (B6.mp hq) (fun hq=>?_) fun hq=>?_
  ·exact ok.kn q hq
  ·rw[Ao] at hq
   subst hq
   exact⟨nd,rfl,h.1,h.2.1,h.2.2,n,rfl,hn⟩
 have h2:((s.known++[(Fs nd,B5 n)]).map (·.1)).Nodup:=by
  rw[Bi]
  refine BJ.mpr ⟨ok.knN,by simp,fun a ha b hb e=>?_⟩
  refine AB (AZ.mp ha) fun q hq z2=>?_;subst z2
  rw[Cn,Ao] at hb
  exact VP he q hq (e.trans hb)
 exact⟨ok.nN,ok.nU,ok.nL,ok.nW,ok.nD,ok.n16,ok.up,ok.ops,ok.kid,ok.nd,ok.lot,h1,h2,ok.abN,ok.ab,ok.abl,ok.abT,ok.wa,ok.waL,ok.edL,ok.foL,ok.mrL⟩
structure Lay.Like (L L':Lay):Prop where
 low:L'.low=L.low
 iH:L'.iH=L.iH
 iB:L'.iB=L.iB
 iU:L'.iU=L.iU
theorem Lay.Like.refl (L:Lay):L.Like L:=⟨rfl,rfl,rfl,rfl⟩
theorem Lay.Like.trans {A B C:Lay}(x:A.Like B)(y:B.Like C):A.Like C:=⟨y.low.trans x.low,y.iH.trans x.iH,y.iB.trans x.iB,y.iU.trans x.iU⟩
theorem Lay.Like.h {A B:Lay}(x:A.Like B):Ft B=Ft A:=by unfold Ft;rw[x.iH,x.low];rfl
structure Went (L:Lay)(s:HS)(H:AH)(mc:Nat)(L':Lay)(s':HS)(H':AH):Prop where
 like:L.Like L'
 at_:At L' s' H'
 step:Step L s H L' s' H'
 ok:Ok s' mc
 nodes:s'.nodes=s.nodes
 less:s'.wait.length+32*s'.abk.length≤s.wait.length+32*s.abk.length
 edges:s.edges.length≤s'.edges.length
theorem Lay.Like.lot (L:Lay)(i:Nat)(c:Addr):L.Like (L.putLot i c):=⟨rfl,rfl,rfl,rfl⟩
theorem Lay.Like.abv (L:Lay)(i:Nat)(c:Addr):L.Like (L.putAbv i c):=⟨rfl,rfl,rfl,rfl⟩
section
variable {X:Ctx}{L:Lay}{s:HS}{mc:Nat}{H:AH}{d:Nat}
theorem Ok.joinLess (ok:Ok s mc){g:Nat}(gm:g∈s.abk):(s.wait++s.abl g).length+32*(s.abk.erase g).length≤s.wait.length+32*s.abk.length:=by
 have h1:=ok.abl32 gm
 have h4:=EA gm
 have h5:=IA gm
 rw[AC,h4]
 exact(Al [_,_,_] 0x22029054262029105502475022028102) h1 h5
theorem Went.join (ok:Ok s mc){a b k g:Nat}{r f:PV}{c:Addr}{H':AH}(hkg:k<g)(hor:aP s a b k g)(ha:a<s.up.length)(hb:b<s.up.length)(A:At (L.putAbv k c) (On s k g r f) H')(S:Step L s H (L.putAbv k c) (On s k g r f) H'):
  Went L s H mc (L.putAbv k c) (On s k g r f) H':=by
 refine DF (ok.two hor ha hb) fun z0 hg rg=>?_;refine Aw z0 fun hk rk=>?_;clear z0
 exact⟨.abv ..,A,S,ok.join hkg rk rg hg r f,rfl,ok.joinLess ((ok.ab g).mpr ⟨ok.nU▸hg,rg⟩),by refine(?_:s.edges.length≤(s.edges++[r]).length);rw[Dg _ _];exact BM _⟩
theorem Went.trans {L1 L2:Lay}{s1 s2:HS}{H1 H2:AH}{mc':Nat}(x:Went L s H mc L1 s1 H1)(y:Went L1 s1 H1 mc' L2 s2 H2):Went L s H mc' L2 s2 H2:=
 ⟨x.like.trans y.like,y.at_,x.step.trans y.step,y.ok,y.nodes.trans x.nodes,Aa y.less x.less,Aa x.edges y.edges⟩
theorem Went.le (ok:Ok s mc){H':AH}(A:At L s H')(S:Step L s H L s H'):Went L s H mc L s H':=⟨.refl L,A,S,ok,rfl,Ak _,Ak _⟩
theorem VR (A:At L s H)(ok:Ok s mc){n:Nat}(hn:n<s.nodes.length){nd:Node}(sm:Os nd){P:PV→AH→Prop}
  (fin:∀j s1 H2,j<s.nodes.length→Went L s H mc L s1 H2→s1.up=s.up→P (B5 j) H2):
  (∀u,EH (Fs nd) s.known=some u→P u H)∧(EH (Fs nd) s.known=none→P (B5 n) (H.set (L.low 6) (.dict (s.known++[(Fs nd,B5 n)]) (s.knownN+1)))):=by
 refine⟨fun u e=>?_,fun e=>?_⟩
 ·refine AI (ok.kn _ (Qj e)) fun uu zr=>?_;refine Aw zr fun uu zr=>?_;refine Aw zr fun uu zr=>?_;refine Aw zr fun uu zr=>?_;refine Aw zr fun uu zr=>?_;refine AB zr fun j z1 hj=>?_;clear zr;subst z1
  exact fin j s H hj (.le ok A .refl) rfl
 ·refine Aw (A.turn 6 rfl (XP s nd n) rfl rfl rfl rfl rfl rfl) fun A S1=>?_
  exact fin n _ _ hn ⟨.refl L,A,S1,ok.know sm hn e,rfl,Ak _,Ak _⟩ rfl
theorem Te (hx:XOk X)(A:At L s H)(ok:Ok s mc)(hmc:mc≤1000){n:Nat}(hn:n<s.nodes.length):
  Bz X (d+4) (.raw (.ref 402)) [Ft L,B5 n] H fun p H'=>p= .none∧∃L' s',Went L s H mc L' s' H':=by
 have n16:=ok.n16
 have nU:=ok.nU
 obtain ⟨nd,en⟩:∃nd,s.nodes[n]? =some nd:=⟨_,Ah hn⟩
 have hk:=ok.kid n nd en
 have hkn:∀k∈nd.kids,k<s.up.length:=fun k h=>nU▸Gs (hk.2 k h) hn
 have sm:Os (cn s.up nd):=⟨ok.ops nd (Cq en),by refine(?_:(nd.kids.map _).length≤2);rw[Ag _];exact hk.1,fun k h=>by
  refine IX h fun j hj=>?_
  exact AJ (LE ok.up j) (Bt (nU▸hkn j hj) n16)⟩
 refine CU hx.K ["self","n"] (by z_go) (by z_go) (by decide+kernel) (by x_run) ?_
 k_one
 refine(Tb hx A ok.up en (by exact Aa ‹_› (by decide)) (by exact(Al [_,_] 0x3e8380010121028102) n16 nU) (by x_go) hkn).m1 fun H1 le=>?_
 have A:=A.le le
 have W0:Went L s H mc L s H1:= .le ok A (.le le)
 k_one
 refine⟨Tc sm.1,ok.knOk,VR (P:=fun p H=>ds X _ _ (.q p) H) A ok hn sm fun j s1 H2 hj W eU=>?_⟩
 have A:=W.at_
 have ok1:=W.ok
 have hj1:j<s1.up.length:=by rw[eU,nU];exact hj
 have hn1:n<s1.up.length:=by rw[eU,nU];exact hn
 have hz1:s1.up.length≤1000:=by rw[eU];exact(Al [_,_] 0x3e8380010121028102) n16 nU
 k_one
 refine(Hm hx A ok1.up hj1 hz1).mv ?_
 k_one
 refine(Hm hx A ok1.up hn1 hz1).mv ?_
 z_run
 by_cases q:BG s1.up j=BG s1.up n
 ·rw[YP q]
  z_run
  exact⟨rfl,L,s1,W0.trans W⟩
 rw[aM q]
 k_one
 refine(VO hx A ok1 hmc hj1 hn1).mono fun p H4 h=>?_
 focus(revert h;refine fun zo=>Ap zo (fun z0=>?_) fun z0=>?_;rotate_left;clear zo;refine XY z0 fun k g f c hkg hor z6 A2 S2=>?_;clear z0;subst z6;rotate_right;clear zo;refine Aw z0 fun e uu=>?_;clear z0)
 ·exact absurd e q
 z_run
 exact⟨rfl,_,_,W0.trans (W.trans (.join ok1 hkg hor hj1 hn1 A2 S2))⟩
def aQ (s:HS)(w:List Nat):HS:={s with wait:=w}
theorem PD (hx:XOk X)(A:At L s H)(ok:Ok s mc)(hmc:mc≤1000):
  Bz X (d+5) (.raw (.ref 437)) [Ft L] H fun p H'=>p= .none∧∃L' s',Went L s H mc L' s' H':=by
 refine CU hx.K ["self"] (by z_go) (by z_go) (by decide+kernel) (by x_run) ?_
 z_run
 refine⟨s.wait.length+32*s.abk.length+1,?_⟩
 refine(?main:∀(n:Nat) (L1:Lay) (s1:HS) (H1:AH),Went L s H mc L1 s1 H1→s1.wait.length+32*s1.abk.length<n→Ij _ _ n [(A8 "self",some (Ft L))] H1 _) _ L s H (.le ok A .refl) (Bx _)
 case main=>
  intro n
  induction n with
  |zero=>intro _ _ _ _ h;exact absurd h (Bj _)
  |succ n ih=>
   intro L1 s1 H1 W hm
   have ok:=W.ok
   have A:=W.at_
   have wl:s1.wait.length≤512:=Aa (Fe ok.waL) (JY 32 ok.n16)
   have e:Ft L1=Ft L:=W.like.h
   rewrite[MR];rw[←e]
   k_one
   refine⟨by rw[AS _];exact Aa ‹_› (by decide),?_⟩
   rw[AS _]
   z_run
   by_cases q:s1.wait.length=0
   ·rw[decide_eq_false (by with_unfolding_all exact EZ.mpr (Fo.mpr ((Al [_] 0x7007012) q)))]
    z_run
    exact⟨rfl,L1,s1,W⟩
   rw[decide_eq_true (by with_unfolding_all exact C_.mpr ((Al [_] 0x4750570122) q))]
   k_one
   obtain ⟨w,m,hw⟩:∃w m,s1.wait=w++[m]:=⟨_,_,(DM (l:=s1.wait) (fun z=>q (by rw[z];rfl))).symm⟩
   have hw2:AL s1.wait=AL w++[B5 m]:=by rw[hw,FF _ _];rfl
   refine⟨B5 m,by rw[hw2,Ju];rfl,by rw[AS _];exact Aa ‹_› (by decide),?_⟩
   rw[hw2,Jv]
   z_run
   generalize hH2:AH.set H1 (L1.low 8) _=H2
   refine Aw (A.turn 8 hH2 (aQ s1 w) rfl rfl rfl rfl rfl rfl) fun A2 S2=>?_
   have hlw:s1.wait.length=w.length+1:=by rw[hw,Dg _ _];rfl
   have hwL:w.length+32*s1.abk.length≤32*s1.nodes.length:=by
    have h:=ok.waL
    exact(Al [_,_,_,_] 0x220291202905022029120293502405312) hlw h
   have ok2:Ok (aQ s1 w) mc:={ok with wa:=fun z hz=>ok.wa z (by rw[hw];exact G3 _ hz),waL:=hwL}
   refine(Te hx A2 ok2 hmc (n:=m) (ok.wa m (by rw[hw];exact DV _ (Ao.mpr rfl)))).mono fun p H3 h=>?_
   refine Aw h fun uu zr=>?_;clear h;refine IV zr fun L3 s3 W3=>?_;clear zr
   have l3:s3.wait.length+32*s3.abk.length≤w.length+32*s1.abk.length:=W3.less
   z_run
   rw[e]
   exact ih L3 s3 H3 (W.trans ⟨W3.like,W3.at_,S2.trans W3.step,W3.ok,W3.nodes,by exact(Al [_,_,_,_,_] 0x3202925120290503202941b5120290502441b5212) hlw l3,W3.edges⟩) (by exact(Al [_,_,_,_,_,_] 0x2412029055041b202951b5120290502451b5312425441b202935502) hm hlw l3)
end
end
section
open Classical
theorem Ok.mono {s:HS}{mc mc':Nat}(ok:Ok s mc)(h:mc≤mc'):Ok s mc':=by
 have e:=ok.edL
 exact⟨ok.nN,ok.nU,ok.nL,ok.nW,ok.nD,ok.n16,ok.up,ok.ops,ok.kid,ok.nd,ok.lot,ok.kn,ok.knN,ok.abN,ok.ab,ok.abl,ok.abT,ok.wa,ok.waL,by exact(Al [_,_,_,_,_] 0x325105041b2510502341b02) h e,ok.foL,ok.mrL⟩
theorem JM (up:List Nat)(i:Nat):(up++[up.length]).getD i i=up.getD i i:=by
 by_cases h:i<up.length
 ·rw[Av,Ca h, ←Av];rfl
 ·by_cases e:i=up.length
  ·subst e;simp[Cd]
  ·rw[Av];rewrite[Bg (by simp;exact(Al [_,_] 0x1405050112250415022) h e)];rw[Av];rewrite[Bg (by exact(Al [_,_] 0x10050415022) h)];rfl
theorem Tf (up:List Nat):∀k a,rt (up++[up.length]) k a=rt up k a
 |0,a=>rfl
 |k+1,a=>by rewrite[U9,U9];rw[JM _ _,Tf up k _];rfl
theorem PF (up:List Nat)(a:Nat):BG (up++[up.length]) a=BG up a:=Tf up a a
def IZ (s:HS)(nd:Node)(w dd:Int):HS:={s with nodes:=s.nodes++[nd],num:=s.nodes++[nd],numN:=s.numN+1,wt:=s.wt++[w],dp:=s.dp++[dd],up:=s.up++[s.up.length],lots:=s.lots++[[s.up.length]],abk:=s.abk++[s.up.length],abN:=s.abN+1,abl:=fun c=>if c=s.up.length then[] else s.abl c}
def MT (s:HS)(c n:Nat):HS:={s with abl:=fun k=>if k=c then s.abl c++[n] else s.abl k}
theorem Ok.add {s:HS}{mc:Nat}(ok:Ok s mc){nd:Node}(w dd:Int)(h16:s.nodes.length<16)(hop:Gq nd.op)(hk2:nd.kids.length≤2)(hk:∀k∈nd.kids,k<s.nodes.length)(hn:nd∉s.nodes):
  Ok (IZ s nd w dd) mc∧((IZ s nd w dd).abk.map fun c=>((IZ s nd w dd).abl c).length).sum+2≤2*(IZ s nd w dd).nodes.length:=by
 have nU:=ok.nU
 have nL:=ok.nL
 have nl:(s.nodes++[nd]).length=s.nodes.length+1:=by simp
 have nm:s.up.length∉s.abk:=fun h=>by have:=((ok.ab _).mp h).1;exact(Al [_,_] 0x51405021012) nU this
 have sumE:((IZ s nd w dd).abk.map fun c=>((IZ s nd w dd).abl c).length).sum=(s.abk.map fun c=>(s.abl c).length).sum:=by
  refine(?_:((s.abk++[s.up.length]).map fun c=>(if c=s.up.length then[] else s.abl c).length).sum=_)
  rw[Bi,IQ,Cn,if_pos rfl]
  have:(s.abk.map fun c=>(if c=s.up.length then[] else s.abl c).length)=s.abk.map fun c=>(s.abl c).length:=AN fun c hc=>by rewrite[if_neg fun e:c=s.up.length=>nm (e▸hc)];rfl
  rw[this]
  exact rfl
 have bound:((IZ s nd w dd).abk.map fun c=>((IZ s nd w dd).abl c).length).sum+2≤2*(IZ s nd w dd).nodes.length:=by
  rw[sumE]
  have:=ok.abT
  refine(?_:_≤2*(s.nodes++[nd]).length)
  exact(Al [_,_,_] 0x12192180502219002425112) nl this
 have al:(s.abk++[s.up.length]).length=s.abk.length+1:=by simp
 refine⟨{nN:=rfl,nU:=?_,nL:=?_,nW:=?_,nD:=?_,n16:=?_,up:=?_,ops:=?_,kid:=?_,nd:=?_,lot:=?_,kn:=?_,knN:=ok.knN,abN:=?_,ab:=?_,abl:=?_,abT:=?_,wa:=?_,waL:=?_,edL:=?_,foL:=?_,mrL:=?_},bound⟩
 ·refine(?_:(s.up++[_]).length=_);rw[AC,Bf];refine(?_:_=(s.nodes++[nd]).length);exact(Al [_,_,_] 0x140514251122012) nU nl
 ·refine(?_:(s.lots++[_]).length=_);rw[AC,Bf];refine(?_:_=(s.nodes++[nd]).length);exact(Al [_,_,_] 0x140514251122012) nL nl
 ·refine(?_:(s.wt++[_]).length=_);rw[AC,Bf,ok.nW];exact nl.symm
 ·refine(?_:(s.dp++[_]).length=_);rw[AC,Bf,ok.nD];exact nl.symm
 ·refine(?_:(s.nodes++[nd]).length≤16);exact(Al [_,_] 0x102800415012102841502) h16 nl
 ·intro i
  refine(?_:(s.up++[s.up.length]).getD i i≤i)
  rw[JM _ _];exact ok.up i
 ·intro x hx
  refine Ap (B6.mp hx) (fun hx=>?_) fun hx=>?_
  ·exact ok.ops x hx
  ·rw[Ao] at hx;subst hx;exact hop
 ·intro i x hx
  have hx':(s.nodes++[nd])[i]? =some x:=hx
  by_cases q:i<s.nodes.length
  ·rw[Ca q] at hx'
   exact ok.kid i x hx'
  ·have hi:i<(s.nodes++[nd]).length:=(A_.mp hx').1
   have:i=s.nodes.length:=by exact(Al [_,_,_] 0x10124050251405022415212) nl q hi
   subst this
   rw[DX] at hx'
   injection hx' with hx'
   subst hx'
   exact⟨hk2,hk⟩
 ·refine(?_:(s.nodes++[nd]).Nodup)
  exact BJ.mpr ⟨ok.nd,by simp,fun a ha b hb e=>hn (by rw[Ao] at hb;rw[←hb, ←e];exact ha)⟩
 ·intro c hc hr
  have hc':c<s.nodes.length+1:=by rw[←nl];exact hc
  have hr':s.up.getD c c=c:=by rw[←JM _ _];exact hr
  refine(?_:((s.lots++[[s.up.length]]).getD c []).Nodup∧∀m,m∈(s.lots++[[s.up.length]]).getD c []↔m<(s.nodes++[nd]).length∧BG (s.up++[s.up.length]) m=c)
  by_cases q:c<s.nodes.length
  ·rw[Av];rewrite[Ca (by exact(Al [_,_,_] 0x140502405022112) nL q)];rw[←Av]
   have h:=ok.lot c q hr'
   refine⟨h.1,fun m=>?_⟩
   rewrite[h.2];rw[PF _ _,nl]
   constructor
   ·exact fun z=>⟨by exact(Al [_,_,_,_] 0x41540503211405032) z,z.2⟩
   ·intro z20;refine Aw z20 fun z1 z2=>?_;clear z20
    refine⟨?_,z2⟩
    by_cases e:m=s.nodes.length
    ·subst e
     rw[Ey (by rw[Av];rewrite[Bg (by exact(Al [_,_] 0x1001012) nU)];rfl)] at z2
     exact(Al [_,_] 0x40501012041502) q z2
    ·exact(Al [_,_] 0x1405051012241540502) z1 e
  ·have:c=s.lots.length:=by exact(Al [_,_,_] 0x10152405022425405022112) nL hc' q
   subst this
   rw[Av,DX]
   refine⟨by simp,fun m=>?_⟩
   rw[PF _ _,nl]
   simp only[FN,Ao]
   constructor
   ·intro e
    subst e
    exact⟨by exact(Al [_,_] 0x41540501012) nU,by rewrite[Ey (by rw[Av,Bg (Ak _)];rfl)];exact(Al [_,_,_] 0x10152415022425415022012) nU hc' q⟩
   ·intro z20;refine Aw z20 fun z1 z2=>?_;clear z20
    have:=LE ok.up m
    exact(Al [_,_,_,_,_] 0x101041b02341b1242540502524350222112) nU q z1 z2 this
 ·intro q hq
  refine AI (ok.kn q hq) fun x zr=>?_;refine Aw zr fun h1 zr=>?_;refine Aw zr fun h2 zr=>?_;refine Aw zr fun h3 zr=>?_;refine Aw zr fun h4 zr=>?_;refine AB zr fun j h5 h6=>?_;clear zr
  exact⟨x,h1,h2,h3,h4,j,h5,by refine(?_:j<(s.nodes++[nd]).length);exact(Al [_,_,_] 0x14050240502425112) nl h6⟩
 ·refine(?_:(s.abk++[s.up.length]).Nodup)
  exact BJ.mpr ⟨ok.abN,by simp,fun a ha b hb e=>nm (by rw[Ao] at hb;rw[←hb, ←e];exact ha)⟩
 ·intro c
  refine(?_:c∈s.abk++[s.up.length]↔c<(s.nodes++[nd]).length∧(s.up++[s.up.length]).getD c c=c)
  rewrite[B6,Ao,ok.ab];rw[JM _ _,nl]
  constructor
  ·rintro (⟨h1,h2⟩|h)
   ·exact⟨by exact(Al [_,_] 0x4154050140502) h1,h2⟩
   ·subst h;exact⟨by exact(Al [_,_] 0x41540501012) nU,by rw[Av];rewrite[Bg (by exact(Al [_] 0))];rfl⟩
  ·intro z20;refine Aw z20 fun h1 h2=>?_;clear z20
   by_cases q:c<s.nodes.length
   ·exact .inl ⟨q,h2⟩
   ·exact .inr (by exact(Al [_,_,_] 0x10152405022425405022112) nU h1 q)
 ·intro c hc m hm
  refine(?_:m<(s.nodes++[nd]).length)
  have hm':m∈(if c=s.up.length then[] else s.abl c):=hm
  by_cases q:c=s.up.length
  ·rw[if_pos q] at hm';cases hm'
  ·rw[if_neg q] at hm'
   have:c∈s.abk:=(B6.mp hc).resolve_right (by simpa using q)
   have:=ok.abl c this m hm'
   exact(Al [_,_,_] 0x14050240502425112) nl this
 ·exact(Al [_,_] 0x12190012192180502) bound
 ·intro m hm
  have:=ok.wa m hm
  refine(?_:m<(s.nodes++[nd]).length)
  exact(Al [_,_,_] 0x14050240502425112) nl this
 ·refine(?_:s.wait.length+32*(s.abk++[s.up.length]).length≤32*(s.nodes++[nd]).length)
  have:=ok.waL
  exact(Al [_,_,_,_,_] 0x22029120290503202941b20290502441b5112435212) nl al this
 ·refine(?_:s.edges.length+(s.abk++[s.up.length]).length≤(s.nodes++[nd]).length+mc)
  have:=ok.edL
  exact(Al [_,_,_,_,_,_] 0x3251050341b551b0502451b5112441b5212) nl al this
 ·refine(?_:s.forest.length+(s.abk++[s.up.length]).length≤(s.nodes++[nd]).length)
  have:=ok.foL
  exact(Al [_,_,_,_,_] 0x21050341b0502441b5112435212) nl al this
 ·refine(?_:s.mrg.length+(s.abk++[s.up.length]).length≤(s.nodes++[nd]).length)
  have:=ok.mrL
  exact(Al [_,_,_,_,_] 0x21050341b0502441b5112435212) nl al this
theorem Ok.push {s:HS}{mc:Nat}(ok:Ok s mc){c n:Nat}(hc:c∈s.abk)(hn:n<s.nodes.length)(hs:(s.abk.map fun c=>(s.abl c).length).sum+1≤2*s.nodes.length):
  Ok (MT s c n) mc∧((MT s c n).abk.map fun k=>((MT s c n).abl k).length).sum=(s.abk.map fun c=>(s.abl c).length).sum+1:=by
 have e:((MT s c n).abk.map fun k=>((MT s c n).abl k).length).sum=(s.abk.map fun c=>(s.abl c).length).sum+1:=by
  rw[←Rc (f:=fun c=>(s.abl c).length) ok.abN hc]
  refine(?_:(s.abk.map fun k=>(if k=c then s.abl c++[n] else s.abl k).length).sum=_)
  refine congrArg _ (AN fun k uu=>?_)
  by_cases q:k=c
  ·rw[if_pos q,if_pos q,AC,Bf];rfl
  ·rw[if_neg q,if_neg q];rfl
 refine⟨⟨ok.nN,ok.nU,ok.nL,ok.nW,ok.nD,ok.n16,ok.up,ok.ops,ok.kid,ok.nd,ok.lot,ok.kn,ok.knN,ok.abN,ok.ab,fun k hk m hm=>?_,by rw[e];exact hs,ok.wa,ok.waL,ok.edL,ok.foL,ok.mrL⟩,e⟩
 have hm':m∈(if k=c then s.abl c++[n] else s.abl k):=hm
 by_cases q:k=c
 ·rw[if_pos q] at hm'
  refine Ap (B6.mp hm') (fun h=>?_) fun h=>?_
  ·exact ok.abl c hc m h
  ·rw[Ao] at h;subst h;exact hn
 ·rw[if_neg q] at hm'
  exact ok.abl k hk m hm'
section
variable {X:Ctx}{L:Lay}{s:HS}{mc:Nat}{H:AH}{d:Nat}
theorem Rd (hx:XOk X)(A:At L s H)(ok:Ok s mc)(hmc:mc<1000){a b:Nat}{r:PV}(ha:a<s.nodes.length)(hb:b<s.nodes.length):
  Bz X (d+4) (.raw (.ref 423)) [Ft L,B5 a,B5 b,r] H fun p H'=>(∃x,p= .bool x)∧∃L' s',Went L s H (mc+1) L' s' H'∧s.edges.length<s'.edges.length:=by
 rw[←ok.nU] at ha hb
 refine CU hx.K ["self","a","b","reason"] (by z_go) (by z_go) (by decide+kernel) (by x_run) ?_
 k_one
 refine(VO hx A ok (AU hmc) ha hb).mono fun p H4 h=>?_
 have lt:∀e,s.edges.length<(s.edges++[e]).length:=fun e=>by rw[Dg _ _];exact Bx _
 z_run
 focus(revert h;refine fun zo=>Ap zo (fun z0=>?_) fun z0=>?_;rotate_left;clear zo;refine XY z0 fun k g f c hkg hor z6 A2 S2=>?_;clear z0;subst z6;rotate_right;clear zo;refine M6 z0 fun uu z1 A2 S2=>?_;clear z0;subst z1)
 ·exact⟨⟨_,rfl⟩,L,_,⟨.refl L,A2,S2,ok.edg _,rfl,Ak _,AU (lt _)⟩,lt _⟩
 ·have W:=Went.join ok hkg hor ha hb A2 S2
  exact⟨⟨_,rfl⟩,_,_,⟨W.like,W.at_,W.step,W.ok.mono (BM _),W.nodes,W.less,W.edges⟩,lt _⟩
end
end
section
open Classical
def YU (L:Lay)(s:HS)(q:PV)(ks:List Nat)(H:AH):Prop:=q= .tup (AL ks)∨∃l,q= .loc l∧H l=some (.list (AL ks))∧¬ON L s l
section
variable {X:Ctx}{L:Lay}{s:HS}{mc:Nat}{H:AH}{d:Nat}
def Uf (s:HS)(f:Nat→List Nat):HS:={s with abl:=f}
theorem cQ {st:List Fr}{q:PV}{ks:List Nat}{H:AH}{elt t:Expr}{ifs:List Expr}{sc:SC}{m:LM}(hq:Qi q ks H)(hl:ks.length≤100000)
  (h:∀f:AH→Prop,(∀H',Le H H'→f H')→Fu f (Lv X d t sc) (Qa X d elt ifs sc) (AL ks) [] m H (RN (qq (ds X d st)))):dc X d H (ds X d st) (.co elt t ifs sc m q):=by
 have hl:(AL ks).length≤100000:=by rw[AS _];exact hl
 focus(revert hq;refine fun zo=>Ap zo (fun z0=>?_) fun z0=>?_;rotate_left;clear zo;refine AB z0 fun l z1 e=>?_;clear z0;subst z1;rotate_right;clear zo;subst z0)
 ·exact⟨hl,h _ fun uu uu=>trivial⟩
 ·refine(?_:Ni (H l) _ _)
  rw[e]
  exact⟨hl,h _ fun H' le=>le _ _ e⟩
theorem VS (hx:XOk X)(A:At L s H)(ok:Ok s mc)(hmc:mc≤1000)(h16:s.nodes.length<16){nd:Node}{q:PV}(hop:Gq nd.op)(hq:YU L s q nd.kids H)(hk2:nd.kids.length≤2)(hk:∀k∈nd.kids,k<s.nodes.length):
  Bz X (d+5) (.raw (.ref 390)) [Ft L, .str nd.op,q] H fun p H'=>∃i L' s',p=B5 i∧i<s'.nodes.length∧L.Like L'∧At L' s' H'∧Step L s H L' s' H'∧Ok s' mc∧s.nodes.length≤s'.nodes.length∧s'.nodes.length≤s.nodes.length+1:=by
 have nU:=ok.nU
 have nL:=ok.nL
 refine CU hx.K ["self","op","numbers"] (by z_go) (by z_go) (by decide+kernel) (by x_run) ?_
 k_one
 refine(YS hx A ok hop (hq.imp_right fun⟨l,e,h,uu⟩=>⟨l,e,h⟩) hk2 hk).mono fun p H1 h=>?_
 focus(revert h;refine fun zo=>Ap zo (fun z0=>?_) fun z0=>?_;rotate_left;clear zo;refine Aw z0 fun hn zr=>?_;clear z0;revert zr;refine fun zq=>Aw zq fun z0 zr=>?_;clear zq;subst z0;refine BT zr fun w dd A1 S1=>?_;clear zr;rotate_right;clear zo;refine CP z0 fun i hi z2 le=>?_;clear z0;subst z2)
 ·have A:=A.le le
  k_one
  refine(T9 hx A (by exact(Al [_,_] 0x3e838001012102841502) h16 nU)).mv ?_
  have hil:i<s.nodes.length:=(A_.mp hi).1
  z_run
  rw[cN (nU▸hil)]
  z_run
  exact Zr i L s rfl hil (.refl L) A (Step.le le) ok (Ak _) (BM _)
 have A:=A1
 k_one
 refine(T9 hx A (by refine(?_:s.up.length≤_);exact(Al [_,_] 0x3e838001012102841502) h16 nU)).mv ?_
 z_run
 rewrite[show decide ((s.nodes.length:Int)<((Ka s nd w dd).up.length:Int))=false from cO (DL nU)]
 k_one
 refine(YT hx A (s:=Ka s nd w dd) (by refine(?_:s.lots.length=s.up.length);exact(Al [_,_,_] 0x10120122112) nU nL) (by refine(?_:s.up.length≤_);exact(Al [_,_] 0x3e838001012102841502) h16 nU)).mono fun p H3 hq3=>?_
 refine Aw hq3 fun e1 zr=>?_;clear hq3;refine AB zr fun c1 A3 S3=>?_;clear zr
 have L3e:∃L3,L3=L.putLot s.up.length c1:=⟨_,rfl⟩
 refine AI L3e fun L3 hL3=>?_;clear L3e
 have A3:At L3 (MS (Ka s nd w dd)) H3:=by rw[hL3];exact A3
 have S3:Step L (Ka s nd w dd) H1 L3 (MS (Ka s nd w dd)) H3:=by rw[hL3];exact S3
 have lk3:L.Like L3:=by rw[hL3];exact .lot ..
 clear hL3
 rw[←lk3.h]
 have A:=A3
 z_run
 intro c hc
 refine Aw (ok.add w dd h16 hop hk2 hk hn) fun ok4 bnd=>?_
 have nm:s.up.length∉s.abk:=fun h=>BO _ (nU▸((ok.ab _).mp h).1)
 have hab:=ok.ab16
 have A:=A3.le (Le.new (o:= .list []) hc)
 k_one
 refine⟨Ei _,Nl ok.abN (by refine(?_:s.abk.length≤_);exact Aa ‹_› (by decide)),?_⟩
 z_run
 generalize hH4:AH.set _ (L3.low 7) _=H4
 have en:EH (B5 s.nodes.length) (E4 L3 s.abk)=none:=by
  cases e:EH (B5 s.nodes.length) (E4 L3 s.abk) with
  |none=>rfl
  |some u=>
   have:B5 s.nodes.length∈(E4 L3 s.abk).map (·.1):=Bk (Qj e)
   rw[PC] at this
   refine AB (AZ.mp this) fun j hj e2=>?_
   exact absurd (nU▸EM e2▸hj) nm
 refine Aw (A3.place 7 (k:= .abv s.up.length) (L':=L3.putAbv s.up.length c) Py (IZ s nd w dd) hc hH4
  (congrArg (fun l=>PO.list (AL l)) (show[]=if s.up.length=s.up.length then[] else s.abl s.up.length from(if_pos rfl).symm)) (by
   rewrite[show EH (B5 s.nodes.length) (E4 L3 (MS (Ka s nd w dd)).abk)=none from en]
   refine(?_:PO.dict (put (B5 s.nodes.length) (.loc c) (E4 L3 s.abk)) (s.abN+1)=PO.dict (E4 (L3.putAbv s.up.length c) (s.abk++[s.up.length])) (s.abN+1))
   have:E4 (L3.putAbv s.up.length c) (s.abk++[s.up.length])=E4 L3 s.abk++[(B5 s.nodes.length, .loc c)]:=by
    rw[←Pz (c:=c) nm]
    unfold E4
    rw[Bi,Cn]
    refine(?_:_++[(B5 s.up.length,PV.loc (if s.up.length=s.up.length then c else _))]=_)
    rw[if_pos rfl,nU];rfl
   rw[this,LH (VP en)];rfl) rfl rfl (fun uu=>nofun) (fun i hi uu=>⟨hi,rfl⟩) (fun i hi ne=>by
   have ni:¬i=s.up.length:=fun e=>ne (congrArg _ e)
   have hi':i∈s.abk++[s.up.length]:=hi
   exact⟨(B6.mp hi').resolve_right fun h=>ni (Ao.mp h),if_neg ni⟩)) fun A4 S4=>?_
 have S:=S1.trans (S3.trans S4)
 obtain ⟨L4,hL4⟩:∃L4,L4=L3.putAbv s.up.length c:=⟨_,rfl⟩
 have lk4:L.Like L4:=by rw[hL4];exact lk3.trans (.abv ..)
 rw[←hL4] at A4 S
 rw[show Ft L3=Ft L4 from lk3.h.trans lk4.h.symm]
 have nN4:(IZ s nd w dd).nodes.length=s.nodes.length+1:=Dg ..
 have nU4:=ok4.nU
 refine cQ (ks:=nd.kids) (hq.imp_right fun⟨l,e,h,no⟩=>⟨l,e,S.keep l _ h no⟩) (by exact Aa ‹_› (by decide)) fun f hf=>?_
 refine CZ (fun m H'=>(∃z,m=[(A8 ".0",none),(A8 "kid",z),(A8 "self",some (Ft L4)),(A8 "op",some (PV.str nd.op)),(A8 "numbers",some q),(A8 "n",some (B5 s.nodes.length)),(A8 "c",none)])∧Le H4 H') (Ta (IZ s nd w dd).up)
  (by rw[AS _];exact Aa ‹_› (by decide)) ⟨⟨_,rfl⟩,Le.refl _⟩ (fun uu H' hI=>hf H' hI.2) (fun x hx' acc m H K ha hI k=>?_) fun m H' hI c2 hc2=>?_
 ·refine Aw hI fun z0 le=>?_;clear hI;refine AI z0 fun z z1=>?_;clear z0;subst z1
  refine AB (AZ.mp hx') fun j hj z2=>?_;subst z2
  have:=hk j hj
  have A:=A4.le le
  k_one
  refine(Hm hx A ok4.up (by exact(Al [_,_,_,_] 0x140503405022112435212) nN4 nU4 this) (by exact(Al [_,_,_] 0x3e838002012415212102841502) h16 nN4 nU4)).mv ?_
  z_run
  exact⟨ha,k _ _ ⟨⟨_,rfl⟩,le⟩⟩
 rw[Mu _ _]
 have rl:∀k∈nd.kids.map (BG (IZ s nd w dd).up),k∈(IZ s nd w dd).abk:=fun k h=>by
  refine IX h fun j hj=>?_
  have h2:=FL ok4.up j j (Ak _)
  exact(ok4.ab _).mpr ⟨AJ h2.2 (nN4▸BW (hk j hj)),h2.1⟩
 have rlen:(AL (nd.kids.map (BG (IZ s nd w dd).up))).length≤2:=by rw[AS _,Ag _];exact hk2
 obtain ⟨ks,hks⟩:∃ks,ks=nd.kids.map (BG (IZ s nd w dd).up):=⟨_,rfl⟩
 rw[←hks] at rl rlen ⊢
 z_run
 refine⟨by exact Aa ‹_› (by decide),(Ce ks).1,by rw[(Ce ks).2];decide, .inl fun p hp=>?_,fun ws hws mem c3 hc3=>?_⟩
 ·refine IX hp fun j uu=>?_
  exact⟨_,rfl⟩
 have wsl:ws.length≤2:=Aa (Mj hws fun x h=>(mem x).mp h) rlen
 have wsn:∀x∈ws,∃j,x=B5 j∧j∈(IZ s nd w dd).abk:=fun x h=>by
  refine AB (AZ.mp ((mem x).mp h)) fun j hj z2=>?_;subst z2
  exact⟨j,rfl,rl j hj⟩
 z_run
 refine⟨⟨by exact AJ ‹_› (by decide),FD fun x h=>?_,FE fun x h=>?_, .inl fun x h=>?_⟩,fun ws2 hp2 hs2 c4 hc4=>?_⟩
 ·refine AB (wsn x h) fun j z1 uu=>?_;subst z1;rfl
 ·refine AB (wsn x h) fun j z1 uu=>?_;subst z1;exact AM _
 ·refine AB (wsn x h) fun j z1 uu=>?_;subst z1;exact⟨_,rfl⟩
 have lef:=((hI.2.trans (Le.new (o:= .list (AL ks)) hc2)).trans (Le.new (o:= .set ws) hc3)).trans (Le.new (o:= .list ws2) hc4)
 have hcl:((((H'.set c2 (.list (AL ks))).set c3 (.set ws)).set c4 (.list ws2))) c4=some (.list ws2):=AH.set_self ..
 have hc40:H4 c4=none:=(((hI.2.trans (Le.new hc2)).trans (Le.new hc3))).none hc4
 generalize (((H'.set c2 (.list (AL ks))).set c3 (.set ws)).set c4 (.list ws2))=H5 at lef hcl ⊢
 z_run
 rw[hcl]
 z_run
 have wl2:ws2.length≤2:=by rw[hp2.length_eq];exact wsl
 refine⟨by exact Aa ‹_› (by decide),?_⟩
 obtain ⟨s4,hs4⟩:∃s4,s4=IZ s nd w dd:=⟨_,rfl⟩
 have e4:s4.abk.Nodup∧s4.abk.length≤16:=⟨hs4▸ok4.abN,hs4▸ok4.ab16⟩
 rw[←hs4] at A4 ok4 bnd S rl nN4 nU4 wsn
 clear hs4
 have n16:=ok4.n16
 refine Ex (fun pre m H'=>(∃z,m=[(A8 "self",some (Ft L4)),(A8 "op",some (PV.str nd.op)),(A8 "numbers",some q),(A8 "n",some (B5 s.nodes.length)),(A8 "c",z)])∧H' c4=some (.list ws2)∧
   ∃f,At L4 (Uf s4 f) H'∧Step L4 s4 H4 L4 (Uf s4 f) H'∧Ok (Uf s4 f) mc∧(s4.abk.map fun c=>(f c).length).sum+2≤2*s4.nodes.length+pre.length) (all:=ws2)
  (fun uu uu uu hI=>hI.2.1) (fun pre x rest m H' ee hI K kn kb kr=>?_) (fun m H' hI=>?_) (pre:=[]) rfl ⟨⟨_,rfl⟩,hcl,s4.abl,A4.le lef,Step.le lef,ok4,bnd⟩
 ·refine Aw hI fun z0 zr=>?_;clear hI;refine AI z0 fun z z1=>?_;clear z0;subst z1;revert zr;refine fun zq=>Aw zq fun hc' zr=>?_;clear zq;refine L6 zr fun g A St okg bg=>?_;clear zr
  refine AB (wsn x (hp2.subset (by rw[ee];exact DV _ (Ab ..)))) fun j z1 hj=>?_;subst z1
  have pl:pre.length+1≤2:=by rw[ee,AC,AQ] at wl2;exact(Al [_,_] 0x21840502184150502) wl2
  have aj:=A.abv (c:=j) hj
  have jl:(g j).length≤32:=okg.abl32 (c:=j) hj
  k_one
  refine⟨Ei j,Nl e4.1 (Aa e4.2 (by decide)),_,Jh hj,?_⟩
  z_run
  rw[aj]
  z_run
  rw[aj]
  z_run
  refine⟨by rw[AS _];refine(?_:(g j).length≤_);exact Aa ‹_› (by decide),?_⟩
  z_run
  generalize hH6:AH.set H' (L4.abvA j) _=H6
  have nOur:¬ON L4 s4 c4:=A4.notOur hc40
  have hc6:H6 c4=some (.list ws2):=by rw[←hH6];rewrite[AH.set_ne (show c4≠L4.abvA j from fun e=>nOur ⟨.abv j,hj,e⟩)];exact hc'
  refine Aw (okg.push (c:=j) (n:=s.nodes.length) hj (by refine(?_:s.nodes.length<s4.nodes.length);exact(Al [_,_] 0x14050405112) nN4) (by refine(?_:(s4.abk.map fun c=>(g c).length).sum+1≤2*s4.nodes.length);exact(Al [_,_,_] 0x12194050218425022121952180502) bg pl)) fun okp sp=>?_
  refine Aw (A.turn' (k:= .abv j) hH6 (MT (Uf s4 g) j s.nodes.length) (congrArg PO.list (by
   refine(?_:_=AL (if j=j then g j++[s.nodes.length] else g j))
   rw[if_pos rfl,FF _ _];rfl)) hj (fun uu v=>v) (fun i v hne=>by
   induction i using Mine.Internal.Cl.casesOn with
   |abv i=>exact congrArg (fun l=>PO.list (AL l)) (if_neg fun e=>hne (by rw[e];rfl))
   |_=>rfl)) fun A6 S6=>?_
  refine(kn _ _ ⟨⟨_,rfl⟩,hc6,_,A6,St.trans S6,okp,?_⟩).1
  have sp':(s4.abk.map fun k=>((MT (Uf s4 g) j s.nodes.length).abl k).length).sum=(s4.abk.map fun c=>(g c).length).sum+1:=sp
  refine(?_:(s4.abk.map fun k=>((MT (Uf s4 g) j s.nodes.length).abl k).length).sum+2≤_)
  rw[sp',Dg _ _]
  exact(Al [_,_,_] 0x42512195218405502121952180502) bg
 ·refine Aw hI fun z0 zr=>?_;clear hI;refine AI z0 fun z z1=>?_;clear z0;subst z1;revert zr;refine fun zq=>Aw zq fun hc' zr=>?_;clear zq;refine L6 zr fun g A St okg bg=>?_;clear zr
  k_one
  refine(Te hx A okg hmc (n:=s.nodes.length) (by refine(?_:s.nodes.length<s4.nodes.length);exact(Al [_,_] 0x14050405112) nN4)).mono fun p H7 h=>?_
  refine Aw h fun uu zr=>?_;clear h;refine IV zr fun L7 s7 W=>?_;clear zr
  have e7:s7.nodes.length=s4.nodes.length:=congrArg Do W.nodes
  z_run
  exact Zr s.nodes.length L7 s7 rfl (by exact(Al [_,_,_] 0x140502112405212) nN4 e7) (lk4.trans W.like) W.at_ (S.trans (St.trans W.step)) W.ok (by exact(Al [_,_,_] 0x1002112405212) nN4 e7) (by exact(Al [_,_,_] 0x415002012415212) nN4 e7)
end
end
section
open Classical
structure Grown (H0 H:AH)(l:List (Addr×PO)):Prop where
 le:Le H0 H
 nd:(l.map (·.1)).Nodup
 at_:∀q∈l,H0 q.1=none∧H q.1=some q.2
theorem Grown.one {H:AH}{c:Addr}{o:PO}(h:H c=none):Grown H (H.set c o) [(c,o)]:=
 ⟨Le.new h,by simp,fun q hq=>by rw[Ao] at hq;subst hq;exact⟨h,AH.set_self ..⟩⟩
theorem Grown.more {H0 H H1 H2:AH}{dd:Addr}{o o':PO}{l l':List (Addr×PO)}(N:Grown H0 H ((dd,o)::l))(M:Grown H H1 l')(e:H1.set dd o'=H2):Grown H0 H2 ((dd,o')::(l++l')):=by
 subst e
 have d0:=N.at_ _ (Ab ..)
 have ndl:=N.nd
 rw[B9,BR] at ndl
 have ne:∀q∈l',q.1≠dd:=fun q hq e=>by
  have:=(M.at_ q hq).1
  rw[e,d0.2] at this
  exact HJ this
 have ne2:∀q∈l,q.1≠dd:=fun q hq e=>ndl.1 (by have h:=Bk (f:=(·.1)) hq;rw[show q.1=dd from e] at h;exact h)
 refine⟨fun a x h=>?_,?_,fun q hq=>?_⟩
 ·rw[AH.set_ne (fun z=>by rw[z,d0.1] at h;exact CC h)]
  exact M.le _ _ (N.le _ _ h)
 ·rw[B9,Bi];rewrite[BR]
  refine⟨fun h=>?_,BJ.mpr ⟨ndl.2,M.nd,fun a ha b hb z=>?_⟩⟩
  ·refine Ap (B6.mp h) (fun h=>?_) fun h=>?_
   ·exact ndl.1 h
   ·refine AB (AZ.mp h) fun q hq e=>?_
    exact ne q hq e
  ·refine AB (AZ.mp ha) fun q hq z2=>?_;subst z2
   refine AB (AZ.mp hb) fun r hr z2=>?_;subst z2
   have h1:=(N.at_ q (Af _ hq)).2
   have h2:=(M.at_ r hr).1
   rw[←z,h1] at h2
   exact HJ h2
 ·refine Ap (Aq.mp hq) (fun z0=>?_) fun hq=>?_;subst z0
  ·exact⟨d0.1,AH.set_self ..⟩
  ·refine Ap (B6.mp hq) (fun hq=>?_) fun hq=>?_
   ·have h:=N.at_ q (Af _ hq)
    exact⟨h.1,by rw[AH.set_ne (ne2 q hq)];exact M.le _ _ h.2⟩
   ·have h:=M.at_ q hq
    refine⟨?_,by rw[AH.set_ne (ne q hq)];exact h.2⟩
    cases z:H0 q.1 with
    |none=>rfl
    |some x=>rw[N.le _ _ z] at h;exact absurd h.1 nofun
theorem Grown.dd {H0 H:AH}{dd:Addr}{o:PO}{l:List (Addr×PO)}(N:Grown H0 H ((dd,o)::l)):H dd=some o:=(N.at_ _ (Ab ..)).2
theorem VT {l:List Addr}{a b:Nat}{d:Addr}(nd:l.Nodup)(ha:a<l.length)(hb:b<l.length)(e:l.getD a d=l.getD b d):a=b:=by
 refine(List.getElem?_inj ha nd).mp ?_
 rw[Av,Av,Ah ha,Ah hb] at e
 rw[Ah ha,Ah hb]
 exact congrArg some e
section
variable {X:Ctx}{H:AH}{d:Nat}
theorem YV (hx:XOk X):Bz X (d+2) (.raw (.ref 186)) [] H fun p H'=>∃a dd c9 c10 c11 c12,p= .inst 186 a dd∧
  Grown H H' [(dd, .attrs [(.str "nodes", .loc c9),(.str "numbers", .loc c10),(.str "weights", .loc c11),(.str "depths", .loc c12)]),(c9, .list []),(c10, .dict [] 0),(c11, .list []),(c12, .list [])]:=by
 refine Nj (fI:=98) (by rw[hx.K];z_go) (by rw[hx.K];z_go) (by rw[hx.K];z_go) (by rw[hx.K];z_go) fun a dd hdd=>?_
 have N:=Grown.one (o:= .attrs []) hdd
 generalize H.set dd (.attrs [])=H1 at N ⊢
 refine R8 hx.K ["self"] (by z_go) (by z_go) (by decide+kernel) (by x_run) ?_
 z_run
 intro c9 h9
 z_run
 rw[Le.new (o:= .list []) h9 _ _ N.dd]
 z_run
 generalize hH2:AH.set _ dd _=H2
 have N:=N.more (.one h9) hH2
 intro c10 h10
 z_run
 rw[Le.new (o:= .dict [] 0) h10 _ _ N.dd]
 z_run
 generalize hH3:AH.set _ dd _=H3
 have N:=N.more (.one h10) hH3
 intro c11 h11
 z_run
 rw[Le.new (o:= .list []) h11 _ _ N.dd]
 z_run
 generalize hH4:AH.set _ dd _=H4
 have N:=N.more (.one h11) hH4
 intro c12 h12
 z_run
 rw[Le.new (o:= .list []) h12 _ _ N.dd]
 z_run
 generalize hH5:AH.set _ dd _=H5
 have N:=N.more (.one h12) hH5
 exact⟨rfl,a,dd,c9,c10,c11,c12,rfl,N⟩
theorem VU (hx:XOk X):Bz X (d+2) (.raw (.ref 355)) [] H fun p H'=>∃a dd c13 c14 c15,p= .inst 355 a dd∧
  Grown H H' [(dd, .attrs [(.str "above", .loc c13),(.str "lots", .loc c14),(.str "merged", .loc c15)]),(c13, .list []),(c14, .list []),(c15, .list [])]:=by
 refine Nj (fI:=291) (by rw[hx.K];z_go) (by rw[hx.K];z_go) (by rw[hx.K];z_go) (by rw[hx.K];z_go) fun a dd hdd=>?_
 have N:=Grown.one (o:= .attrs []) hdd
 generalize H.set dd (.attrs [])=H1 at N ⊢
 refine R8 hx.K ["self"] (by z_go) (by z_go) (by decide+kernel) (by x_run) ?_
 z_run
 intro c9 h9
 z_run
 rw[Le.new (o:= .list []) h9 _ _ N.dd]
 z_run
 generalize hH2:AH.set _ dd _=H2
 have N:=N.more (.one h9) hH2
 intro c10 h10
 z_run
 rw[Le.new (o:= .list []) h10 _ _ N.dd]
 z_run
 generalize hH3:AH.set _ dd _=H3
 have N:=N.more (.one h10) hH3
 intro c11 h11
 z_run
 rw[Le.new (o:= .list []) h11 _ _ N.dd]
 z_run
 generalize hH4:AH.set _ dd _=H4
 have N:=N.more (.one h11) hH4
 exact⟨rfl,a,dd,c9,c10,c11,rfl,N⟩
def VV:HS:=⟨[],[],0,[],[],[],[],[],[],[],[],0,[],0,fun uu=>[],[]⟩
theorem YW:Ok VV 0 where
 nN:=rfl
 nU:=rfl
 nL:=rfl
 nW:=rfl
 nD:=rfl
 n16:=by decide
 up:=fun i=>by exact Ak _
 ops:=nofun
 kid:=fun i nd h=>by simp[VV] at h
 nd:=by decide
 lot:=fun c hc=>absurd hc (Bj _)
 kn:=nofun
 knN:=by decide
 abN:=by decide
 ab:=fun c=>⟨nofun,fun h=>absurd h.1 (Bj _)⟩
 abl:=nofun
 abT:=by exact AM _
 wa:=nofun
 waL:=by exact AM _
 edL:=by exact AM _
 foL:=by exact AM _
 mrL:=by exact AM _
theorem YX (hx:XOk X):Bz X (d+4) (.raw (.ref 485)) [] H fun p H'=>∃L,p=Ft L∧At L VV H'∧Le H H'∧∀a,ON L VV a→H a=none:=by
 refine Nj (fI:=373) (by rw[hx.K];z_go) (by rw[hx.K];z_go) (by rw[hx.K];z_go) (by rw[hx.K];z_go) fun a dd hdd=>?_
 have N:=Grown.one (o:= .attrs []) hdd
 generalize H.set dd (.attrs [])=H1 at N ⊢
 refine R8 hx.K ["self"] (by z_go) (by z_go) (by decide+kernel) (by x_run) ?_
 z_run
 refine(YV hx).mono fun p H2 hq1=>?_
 refine AI hq1 fun aB zr=>?_;clear hq1;refine Zq zr fun dB c9 c10 c11 c12 e M=>?_;clear zr
 subst e
 z_run
 rw[M.le _ _ N.dd]
 z_run
 generalize hH3:AH.set _ dd _=H3
 have N:=N.more M hH3
 refine(VU hx).mono fun p H4 hq2=>?_
 refine Zq hq2 fun aU dU c13 c14 c15 e M=>?_;clear hq2
 subst e
 z_run
 rw[M.le _ _ N.dd]
 z_run
 generalize hH5:AH.set _ dd _=H5
 have N:=N.more M hH5
 intro c4 h
 z_run
 rw[Le.new (o:= .list []) h _ _ N.dd]
 z_run
 generalize hHa:AH.set _ dd _=Ha
 have N:=N.more (.one h) hHa
 intro c5 h
 z_run
 rw[Le.new (o:= .list []) h _ _ N.dd]
 z_run
 generalize hHb:AH.set _ dd _=Hb
 have N:=N.more (.one h) hHb
 intro c6 h
 z_run
 rw[Le.new (o:= .dict [] 0) h _ _ N.dd]
 z_run
 generalize hHc:AH.set _ dd _=Hc
 have N:=N.more (.one h) hHc
 intro c7 h
 z_run
 rw[Le.new (o:= .dict [] 0) h _ _ N.dd]
 z_run
 generalize hHd:AH.set _ dd _=Hd
 have N:=N.more (.one h) hHd
 intro c8 h
 z_run
 rw[Le.new (o:= .list []) h _ _ N.dd]
 z_run
 generalize hHe:AH.set _ dd _=He
 have N:=N.more (.one h) hHe
 clear hHa hHb hHc hHd hHe hH3 hH5 M
 let L:Lay:=⟨fun i=>([dd,dB,c9,c10,c11,c12,dU,c13,c14,c15,c4,c5,c6,c7,c8]:List Addr).getD ([0,0,1,6,10,11,12,13,14,2,3,4,5,7,8,9].getD i 0) dd,fun uu=>dd,fun uu=>dd,a,aB,aU⟩
 have nd:([dd,dB,c9,c10,c11,c12,dU,c13,c14,c15,c4,c5,c6,c7,c8]:List Addr).Nodup:=N.nd
 have pinj:∀i:Fin 16,∀j:Fin 16,1≤i.val→1≤j.val→([0,0,1,6,10,11,12,13,14,2,3,4,5,7,8,9]:List Nat).getD i.val 0=([0,0,1,6,10,11,12,13,14,2,3,4,5,7,8,9]:List Nat).getD j.val 0→i=j:=by decide+kernel
 have plt15:∀i:Fin 16,([0,0,1,6,10,11,12,13,14,2,3,4,5,7,8,9]:List Nat).getD i.val 0<15:=by decide+kernel
 have all:∀i:Fin 16,1≤i.val→H (L.low i.val)=none∧He (L.low i.val)=some (Du L VV (.lo i.val)):=by
  have step:∀i:Nat,i∈[1,2,9,10,11,12,3,13,14,15,4,5,6,7,8]→H (L.low i)=none∧He (L.low i)=some (Du L VV (.lo i)):=fun i e=>
   N.at_ (L.low i,Du L VV (.lo i)) (Bk (f:=fun i=>(L.low i,Du L VV (.lo i))) e)
  exact fun i h=>step _ ((by decide+kernel:∀i:Fin 16,1≤i.val→i.val∈[1,2,9,10,11,12,3,13,14,15,4,5,6,7,8]) i h)
 have val:∀k,HZ VV k→∃i:Nat,k= .lo i∧1≤i∧i<16:=fun k v=>by
  induction k using Mine.Internal.Cl.casesOn with
  |lo i=>exact⟨i,rfl,v.1,Nat.lt_succ_of_le v.2⟩
  |lot i=>exact absurd v (Bj _)
  |abv i=>cases v
 refine⟨rfl,L,rfl,⟨fun k v=>?_,fun j k vj vk e=>?_⟩,N.le,fun z q=>?_⟩
 ·refine CP (val k v) fun i z1 h1 h2=>?_;subst z1
  exact(all ⟨i,h2⟩ h1).2
 ·refine CP (val j vj) fun i z1 h1 h2=>?_;subst z1
  refine CP (val k vk) fun i' z1 h1' h2'=>?_;subst z1
  have h:=VT nd (plt15 ⟨i,h2⟩) (plt15 ⟨i',h2'⟩) e
  exact congrArg Cl.lo (Fin.val_eq_of_eq (pinj ⟨i,h2⟩ ⟨i',h2'⟩ h1 h1' h))
 ·refine AB q fun k v e=>?_
  refine CP (val k v) fun i z1 h1 h2=>?_;subst z1
  exact e▸(all ⟨i,h2⟩ h1).1
end
end
section
open Classical
theorem JN {α:Type}(l:List α):∃l':List α,l'.Nodup∧(∀x,x∈l'↔x∈l)∧l'.length≤l.length:=by
 induction l with
 |nil=>exact⟨[],CN,fun uu=>Iff.rfl,Ak _⟩
 |cons a l ih=>
  refine CP ih fun l' h1 h2 h3=>?_;clear ih
  by_cases h:a∈l'
  ·refine⟨l',h1,fun x=>?_,Aa h3 (BM _)⟩
   rewrite[h2,Aq]
   exact⟨.inr,fun z=>z.elim (fun e=>e▸(h2 a).mp h) id⟩
  ·refine⟨a::l',BR.mpr ⟨h,h1⟩,fun x=>?_,by simp only[AQ];exact(Al [_,_] 0x41540501002) h3⟩
   rewrite[Aq,Aq,h2];rfl
def cls (s:HS)(c:Nat):List Node:=choose (JN (((Am s.nodes.length).filter fun m=>decide (BG s.up m=c)).map fun m=>cn s.up (s.nodes.getD m Fa)))
theorem PG (s:HS)(c:Nat):(cls s c).Nodup:=(choose_spec (JN _)).1
theorem Tg (s:HS)(c:Nat):(cls s c).length≤s.nodes.length:=by
 have h:(cls s c).length≤(((Am s.nodes.length).filter fun m=>decide (BG s.up m=c)).map fun m=>cn s.up (s.nodes.getD m Fa)).length:=(choose_spec (JN _)).2.2
 rw[Ag] at h
 have h2:=List.length_filter_le (fun m=>decide (BG s.up m=c)) (Am s.nodes.length)
 rw[AO] at h2
 exact Aa ‹_› ‹_›
theorem LJ {s:HS}{c:Nat}{x:Node}:x∈cls s c↔∃m,m<s.nodes.length∧BG s.up m=c∧x=cn s.up (s.nodes.getD m Fa):=by
 rewrite[show x∈cls s c↔_ from(choose_spec (JN _)).2.1 x]
 simp only[AZ,Gf,BA,decide_eq_true_eq]
 constructor
 ·intro z20;refine AB z20 fun m z1 z2=>?_;clear z20;refine Aw z1 fun h1 h2=>?_;clear z1;subst z2;exact⟨m,h1,h2,rfl⟩
 ·intro z20;refine CP z20 fun m h1 h2 z3=>?_;clear z20;subst z3;exact⟨m,⟨h1,h2⟩,rfl⟩
def Wt (t:Nat→Nat→Nat):List Nat→Nat→Nat
 |[],m=>if m=0 then 1 else 0
 |[k],m=>t m k
 |k1::k2::_,m=>((Am (m-1)).map fun i=>t (i+1) k1*t (m-(i+1)) k2).sum
def XQ (s:HS):Nat→Nat→Nat→Nat
 |0,_,_=>0
 |n+1,sz,c=>if sz=n+1 then((cls s c).map fun nd=>Wt (XQ s n) nd.kids n).sum else XQ s n sz c
theorem XR {s:HS}{n sz c:Nat}:XQ s (n+1) sz c=if sz=n+1 then((cls s c).map fun nd=>Wt (XQ s n) nd.kids n).sum else XQ s n sz c:=rfl
def T (s:HS)(sz c:Nat):Nat:=XQ s sz sz c
theorem Th {s:HS}:∀{n sz c:Nat},sz≤n→XQ s n sz c=T s sz c
 |0,sz,c,h=>by cases G6.mp h;rfl
 |n+1,sz,c,h=>by
  by_cases e:sz=n+1
  ·subst e;rfl
  ·rewrite[XR];rw[if_neg e];rewrite[Th (by exact(Al [_,_] 0x10054150122415002) h e)];rfl
theorem cR {s:HS}{n:Nat}(ks:List Nat):Wt (XQ s n) ks n=Wt (T s) ks n:=by
 match ks with
 |[]=>rfl
 |[k]=>exact Th (Ak _)
 |k1::k2::_=>
  change ((Am (n-1)).map fun i=>_).sum=((Am (n-1)).map fun i=>_).sum
  refine congrArg _ (AN fun i hi=>?_)
  have:=BA.mp hi
  rewrite[Th (by exact(Al [_,_] 0x1405041640502) this),Th (by exact(Al [_,_] 0x415060))];rfl
theorem YY (s:HS)(c:Nat):T s 0 c=0:=rfl
theorem Sj (s:HS)(n c:Nat):T s (n+1) c=((cls s c).map fun nd=>Wt (T s) nd.kids n).sum:=by
 unfold T
 rewrite[XR];rw[if_pos rfl]
 exact congrArg _ (AN fun nd uu=>cR nd.kids)
theorem Sk {f:Nat→Nat}{l:List Nat}{b:Nat}(h:∀x∈l,f x≤b):(l.map f).sum≤l.length*b:=by
 induction l with
 |nil=>simp
 |cons a l ih=>
  rw[B9,BX,AQ,Nat.succ_mul _ _]
  have h1:=h a (Ab ..)
  have h2:=ih fun x hx=>h x (Af _ hx)
  x_go
theorem Re {α:Type}{f:α→Nat}{l:List α}{b:Nat}(h:∀x∈l,f x≤b):(l.map f).sum≤l.length*b:=by
 induction l with
 |nil=>simp
 |cons a l ih=>
  rw[B9,BX,AQ,Nat.succ_mul _ _]
  have h1:=h a (Ab ..)
  have h2:=ih fun x hx=>h x (Af _ hx)
  x_go
def be:Nat→Nat
 |0=>0
 |n+1=>7+2*be n
theorem Xf {s:HS}(h16:s.nodes.length≤16):∀n,n≤8→∀sz,sz≤n→∀c,T s sz c≤2 ^ be n:=by
 intro n
 induction n with
 |zero=>intro _ sz h c;cases G6.mp h;exact AM _
 |succ n ih=>
  intro hn sz hsz c
  have ih:=ih (by exact AU ‹_›)
  have mono:2 ^ be n≤2 ^ be (n+1):=Nat.pow_le_pow_right (by decide) (by refine(?_:be n≤7+2*be n);exact(Al [_] 0x219718500))
  by_cases e:sz≤n
  ·exact Aa (ih sz e c) mono
  have:sz=n+1:=by exact(Al [_,_] 0x41501510022415002) hsz e
  subst this
  rw[Sj _ _ _]
  have hw:∀nd∈cls s c,Wt (T s) nd.kids n≤8*(2 ^ be n*2 ^ be n):=fun nd uu=>by
   have p1:1≤2 ^ be n:=Nat.one_le_two_pow
   have p2:2 ^ be n≤2 ^ be n*2 ^ be n:=Nat.le_mul_of_pos_left _ p1
   generalize nd.kids=ks
   match ks with
   |[]=>refine(?_:(if n=0 then 1 else 0)≤_);split<;>x_go
   |[k]=>have h:=ih n (Ak _) k;refine(?_:T s n k≤_);x_go
   |k1::k2::_=>
    refine(?_:((Am (n-1)).map fun i=>T s (i+1) k1*T s (n-(i+1)) k2).sum≤_)
    refine Aa (Sk (b:=2 ^ be n*2 ^ be n) fun i hi=>?_) ?_
    ·have:=BA.mp hi
     exact OH (ih _ (by exact(Al [_,_] 0x1405041640502) this) _) (ih _ (by exact(Al [_,_] 0x415060)) _)
    ·rw[AO]
     exact Jr _ (by exact(Al [_] 0x818406081840502) hn)
  refine Aa (Re hw) ?_
  have hl:=Tg s c
  have e1:2 ^ be (n+1)=128*(2 ^ be n*2 ^ be n):=by rewrite[show be (n+1)=7+2*be n from rfl];rw[Nat.pow_add _ _ _,Nat.two_mul _,Nat.pow_add _ _ _];rfl
  rw[e1]
  refine Aa (Jr _ (show(cls s c).length≤16 by exact Aa ‹_› ‹_›)) ?_
  x_go
theorem I0 {n k:Nat}(h:n≤2 ^ k)(hk:k≤999998):room (n:Int):=by
 unfold room K0
 split
 ·decide
 ·rw[Int.natAbs_natCast _]
  have:n.log2≤k:=by
   by_cases z:n=0
   ·subst z;simp
   ·exact CS ((Nat.log2_lt z).mpr (AJ h (Nat.pow_lt_pow_right (by decide) (Bx _))))
  exact(Al [_,_] 0xf42405840501002f423e58102) hk this
theorem Qk {s:HS}(h16:s.nodes.length≤16){sz:Nat}(h:sz≤8)(c:Nat):room (T s sz c:Int):=I0 (Xf h16 8 (Ak _) sz h c) (by decide)
theorem Rf {l l':List Nat}(h:l.Perm l'):l.sum=l'.sum:=by
 induction h with
 |nil=>rfl
 |cons a _ ih=>rw[BX,BX,ih];rfl
 |swap a b l=>simp only[BX];exact(Al [_,_,_] 0x20515215051)
 |trans _ _ ih1 ih2=>exact ih1.trans ih2
theorem Ji (l:List Nat):Dn (AL l)=some (l.map (fun n:Nat=>(n:Int))):=by
 induction l with
 |nil=>rfl
 |cons a l ih=>refine(?_:(Dn (AL l)).map _=_);rw[ih];rfl
theorem Jj (l:List Nat):(l.map (fun n:Nat=>(n:Int))).sum=(l.sum:Int):=by
 induction l with
 |nil=>rfl
 |cons a l ih=>rw[B9,BX,BX,ih];x_go
theorem MU {α:Type}{l l':List α}(h:l.Nodup)(h':l'.Nodup)(e:∀x,x∈l↔x∈l'):l.Perm l':=(List.perm_ext_iff_of_nodup h h').mpr e
end
section
open Classical
def G8 (ks:List Nat)(sz:Nat):PV:= .tup [.tup (AL ks),B5 sz]
def Ti (ks:List Nat)(sz:Nat):Prop:=(1≤ks.length∧ks.length≤2)∧(∀k∈ks,k<16)∧sz≤7
def Xg (s:HS)(es:List (PV×PV)):Prop:=(es.map (·.1)).Nodup∧∀q∈es,∃ks sz,q=(G8 ks sz,B5 (Wt (T s) ks sz))∧Ti ks sz
theorem Jk {a b:List Nat}(h:AL a=AL b):a=b:=(KS (fun x y e=>EM e)).mp h
theorem Sm {a b:List Nat}{x y:Nat}(h:G8 a x=G8 b y):a=b∧x=y:=by
 simp only[G8,PV.tup.injEq,Gh,and_true] at h
 exact⟨Jk h.1,EM h.2⟩
theorem E5 (ks:List Nat)(sz:Nat):Cz (G8 ks sz)∧(G8 ks sz).deep≤7:=by
 have n:=Ce ks
 have h:(G8 ks sz).deep≤7:=by refine(?_:DG (B_ (AL ks)+1) (DG 0 0)+1≤7);rw[n.2];decide
 exact⟨⟨by refine(?_:((C9 (AL ks))&&true)=true);rw[n.1];rfl,h,rfl⟩,h⟩
def XS:PV→Nat
 | .tup [.tup r, .int z]=>8*LI (r.map fun p=>match p with| .int k=>k.toNat|_=>0)+z.toNat
 |_=>0
theorem Mx (ks:List Nat)(sz:Nat):XS (G8 ks sz)=8*LI ks+sz:=by
 refine(?_:8*LI ((AL ks).map _)+FY (sz:Int)=_)
 rw[B7 _]
 congr 3
 unfold AL
 rw[AW]
 exact(AN fun a uu=>B7 a).trans (JP _)
theorem Xg.keys {s:HS}{es:List (PV×PV)}(k:Xg s es):Bw es:=by
 have sm:∀p∈es.map (·.1),∃ks sz,p=G8 ks sz∧Ti ks sz:=fun p hp=>by
  refine IX hp fun q hq=>?_
  refine BT (k.2 q hq) fun ks sz z2 h=>?_;subst z2
  exact Gn ks sz rfl h
 have h1:((es.map (·.1)).map XS).Nodup:=by
  refine Cg.mpr (k.1.imp_of_mem fun ha hb ne e=>?_)
  refine IW (sm _ ha) fun x z z2 x1 x2 x3=>?_;subst z2
  refine IW (sm _ hb) fun y w z2 y1 y2 y3=>?_;subst z2
  rw[Mx,Mx] at e
  have:=(JL ⟨x1.2,x2⟩ ⟨y1.2,y2⟩ (by exact(Al [_,_,_,_] 0x10131819520819512718302718202) x3 y3 e)).1
  subst this
  have:z=w:=by exact(Al [_,_,_] 0x10112819502819512) e
  subst this
  exact ne rfl
 have h2:=GF (n:=3000) h1 fun m hm=>by
  refine IX hm fun p hp=>?_
  refine IW (sm _ hp) fun x z z2 x1 x2 x3=>?_;subst z2
  rw[Mx _ _]
  have o2:=(JL ⟨x1.2,x2⟩ ⟨x1.2,x2⟩ rfl).2
  exact(Al [_,_] 0xbb8384108195501183840502718102) x3 o2
 rw[Ag,Ag] at h2
 refine⟨FD fun p hp=>?_,k.1,by exact Aa ‹_› (by decide),FE fun p hp=>?_⟩
 ·refine BT (sm p hp) fun x z z2 uu=>?_;subst z2
  exact(E5 x z).1.1
 ·refine BT (sm p hp) fun x z z2 uu=>?_;subst z2
  exact(E5 x z).2
theorem Xh {k v:PV}{es:List (PV×PV)}:∀q∈put k v es,q=(k,v)∨q∈es:=by
 induction es with
 |nil=>intro q hq;exact .inl (Ao.mp hq)
 |cons a es ih=>
  rcases a with⟨k',v'⟩
  intro q hq
  rw[Li] at hq
  split at hq
  ·refine Ap (Aq.mp hq) (fun z0=>?_) fun h=>?_;subst z0
   ·left;rename_i e;rw[e];rfl
   ·exact .inr (Af _ h)
  ·refine Ap (Aq.mp hq) (fun z0=>?_) fun h=>?_;subst z0
   ·exact .inr (Ab ..)
   ·exact(ih q h).imp_right (Af _)
theorem Tj {k v:PV}{es:List (PV×PV)}:EH k (put k v es)=some v:=by
 induction es with
 |nil=>rewrite[Zv,HR];rw[if_pos rfl];rfl
 |cons a es ih=>
  rcases a with⟨k',v'⟩
  rewrite[Li]
  by_cases e:k'=k
  ·rw[if_pos e];rewrite[HR];rw[if_pos e];rfl
  ·rw[if_neg e];rewrite[HR];rw[if_neg e,ih];rfl
theorem Xg.put {s:HS}{es:List (PV×PV)}(k:Xg s es){ks:List Nat}{sz:Nat}(h:Ti ks sz):Xg s (put (G8 ks sz) (B5 (Wt (T s) ks sz)) es):=by
 refine⟨?_,fun q hq=>(Xh q hq).elim (fun e=>⟨ks,sz,e,h⟩) (k.2 q)⟩
 rw[HW]
 split
 ·exact k.1
 ·rename_i n
  exact BJ.mpr ⟨k.1,by simp,fun a ha b hb e=>n (by rw[Ao] at hb;rw[←hb, ←e];exact ha)⟩
theorem Xg.get {s:HS}{es:List (PV×PV)}(k:Xg s es){ks:List Nat}{sz:Nat}{v:PV}(h:EH (G8 ks sz) es=some v):v=B5 (Wt (T s) ks sz):=by
 refine BT (k.2 _ (Qj h)) fun x z e uu=>?_
 simp only[P0] at e
 refine Aw e fun e1 e2=>?_;clear e
 refine Aw (Sm e1) fun z0 z1=>?_;subst z0;subst z1
 exact e2
def Kp (kc:Addr)(H H':AH):Prop:=∀a o,H a=some o→a≠kc→H' a=some o
theorem Kp.le {kc:Addr}{H H':AH}(l:Le H H'):Kp kc H H':=fun a o e uu=>l a o e
theorem Kp.trans {kc:Addr}{A B C:AH}(x:Kp kc A B)(y:Kp kc B C):Kp kc A C:=fun a o e n=>y a o (x a o e n) n
theorem Kp.set {kc:Addr}{H:AH}{o:PO}:Kp kc H (H.set kc o):=fun a x e n=>by rw[AH.set_ne n];exact e
structure CAt (L:Lay)(s:HS)(mk:PV)(dd kc:Addr)(H:AH):Prop where
 at_:At L s H
 c:H dd=some (.attrs [(.str "heap",Ft L),(.str "mark",mk),(.str "known", .loc kc)])
 k:∃es n,H kc=some (.dict es n)∧Xg s es
 nk:¬ON L s kc
 nd:¬ON L s dd
 ne:dd≠kc
theorem At.keep {L:Lay}{s:HS}{H H':AH}(A:At L s H){kc:Addr}(k:Kp kc H H')(n:¬ON L s kc):At L s H':=
 ⟨fun j v=>k _ _ (A.cell j v) fun e=>n ⟨j,v,e.symm⟩,A.inj⟩
theorem CAt.le {L:Lay}{s:HS}{mk:PV}{dd kc:Addr}{H H':AH}(C:CAt L s mk dd kc H)(l:Le H H'):CAt L s mk dd kc H':=
 ⟨C.at_.le l,l _ _ C.c,C.k.imp fun uu h=>h.imp fun uu h=>⟨l _ _ h.1,h.2⟩,C.nk,C.nd,C.ne⟩
theorem CAt.set {L:Lay}{s:HS}{mk:PV}{dd kc:Addr}{H:AH}(C:CAt L s mk dd kc H){es:List (PV×PV)}{n:Nat}(h:Xg s es):CAt L s mk dd kc (H.set kc (.dict es n)):=
 ⟨C.at_.keep Kp.set C.nk,by rw[AH.set_ne C.ne];exact C.c,⟨es,n,AH.set_self ..,h⟩,C.nk,C.nd,C.ne⟩
section
variable {X:Ctx}{L:Lay}{s:HS}{mc:Nat}{mk:PV}{a dd kc:Addr}{H:AH}{d:Nat}
theorem VW {s:HS}{ks:List Nat}{sz:Nat}(h:sz<ks.length)(hl:ks.length≤2):Wt (T s) ks sz=0:=by
 induction ks using Az with
 |nil=>exact absurd h (Bj _)
 |cons k ks=>
  induction ks using Az with
  |nil=>
   have:sz=0:=Nat.lt_one_iff.mp h
   subst this;rfl
  |cons k2 ks=>
   refine(?_:((Am (sz-1)).map _).sum=0)
   rw[show sz-1=0 from J9 (CS (Bt h hl))];rfl
theorem VX (ok:Ok s mc){c:Nat}{nd:Node}(h:nd∈cls s c):Gq nd.op∧nd.kids.length≤2∧∀k∈nd.kids,k∈s.abk:=by
 refine CP (LJ.mp h) fun m hm uu z3=>?_;subst z3
 obtain ⟨x,hx⟩:∃x,s.nodes[m]? =some x:=⟨_,Ah hm⟩
 rw[LF hx]
 have hk:=ok.kid m x hx
 refine⟨ok.ops x (Cq hx),by refine(?_:(x.kids.map _).length≤2);rw[Ag _];exact hk.1,fun k h=>?_⟩
 refine IX h fun j hj=>?_
 have:=hk.2 j hj
 have r:=FL ok.up j j (Ak _)
 exact(ok.ab _).mpr ⟨by exact(Al [_,_,_,_,_] 0x14050300041b132243502142502) hm this r,r.1⟩
theorem So (hx:XOk X)(A:At L s H)(ok:Ok s mc){c:Nat}(hc:c∈s.abk):
  Bz X (d+4) (.raw (.ref 463)) [Ft L,B5 c] H fun p H'=>∃(l:Addr) (nds:List Node),p= .loc l∧H l=none∧Le H H'∧H' l=some (.list (nds.map Fs))∧nds.Perm (cls s c):=by
 have hc':=(ok.ab c).mp hc
 have hl:=ok.lot c hc'.1 hc'.2
 refine(Ua hx A ok hc'.1).mono fun p H' hq1=>?_
 refine Rr hq1 fun l ws e h1 h2 h3 h4 h5=>?_;clear hq1
 rw[Ey hc'.2] at h5
 have each:∀x,x∈ws↔∃nd∈cls s c,x=Fs nd:=fun x=>by
  rewrite[h5]
  constructor
  ·intro z20;refine AB z20 fun m hm z2=>?_;clear z20;subst z2
   have:=(hl.2 m).mp hm
   exact⟨_,LJ.mpr ⟨m,this.1,this.2,rfl⟩,rfl⟩
  ·intro z20;refine AB z20 fun nd h z2=>?_;clear z20;subst z2
   refine CP (LJ.mp h) fun m h1 h2 z3=>?_;subst z3
   exact⟨m,(hl.2 m).mpr ⟨h1,h2⟩,rfl⟩
 have ex:∀ws:List PV,(∀x∈ws,∃nd:Node,x=Fs nd)→∃nds:List Node,ws=nds.map Fs:=by
  intro ws
  induction ws with
  |nil=>exact fun uu=>⟨[],rfl⟩
  |cons a ws ih=>
   intro h
   refine AI (h a (Ab ..)) fun nd z1=>?_;subst z1
   refine AI (ih fun x hx=>h x (Af _ hx)) fun nds z1=>?_;subst z1
   exact⟨nd::nds,rfl⟩
 refine AI (ex ws fun x h=>((each x).mp h).imp fun uu z=>z.2) fun nds z1=>?_;subst z1
 refine Tt l nds e h1 h2 h3 (MU (List.Pairwise.of_map Fs (fun a b h e=>h (by rw[e];rfl)) h4) (PG s c) fun x=>?_)
 constructor
 ·intro h
  refine AB ((each (Fs x)).mp (Bk h)) fun nd h2 e=>?_
  rw[LG e];exact h2
 ·intro h
  refine AB (AZ.mp ((each (Fs x)).mpr ⟨x,h,rfl⟩)) fun nd h2 e=>?_
  rw[←LG e];exact h2
def gP (s:HS)(m:Nat):PV→PV
 | .tup (.str _::r)=>B5 (Wt (T s) (r.map fun p=>match p with| .int k=>k.toNat|_=>0) m)
 |p=>p
theorem Tk (s:HS)(m:Nat)(nd:Node):gP s m (Fs nd)=B5 (Wt (T s) nd.kids m):=by
 refine(?_:B5 (Wt (T s) ((AL nd.kids).map _) m)=_)
 congr 3
 unfold AL
 rw[AW]
 exact(AN fun a uu=>B7 a).trans (JP _)
theorem YZ (s:HS)(m:Nat)(nds:List Node):(nds.map Fs).map (gP s m)=AL (nds.map fun nd=>Wt (T s) nd.kids m):=by
 unfold AL
 rw[AW,AW]
 exact AN fun nd uu=>Tk s m nd
theorem VY {α:Type}:∀{l:List α},l.length=2→∃a b,l=[a,b]
 |[a,b],_=>⟨a,b,rfl⟩
theorem Y_ (hx:XOk X)(ok:Ok s mc)(sz:Nat):∀(ks:List Nat) (H:AH) (d:Nat),sz≤7→2*sz+ks.length+6≤d→ks.length≤2→(∀k∈ks,k∈s.abk)→CAt L s mk dd kc H→
  Bz X d (.raw (.ref 228)) [.inst 273 a dd, .tup (AL ks),B5 sz] H fun p H'=>p=B5 (Wt (T s) ks sz)∧CAt L s mk dd kc H'∧Kp kc H H':=by
 induction sz using Gd with
 |_ sz ih=>
 intro ks H d h7 hd hl hks C
 obtain ⟨d,rfl⟩:∃d',d=d'+1:=⟨d-1,by exact(Al [_,_,_] 0x44065010618212195502) hd⟩
 have nl:=AS ks
 refine CU hx.K ["self","classes","size"] (by z_go) (by z_go) (by decide+kernel) (by x_run) ?_
 z_run
 refine⟨by exact(Al [_,_] 0x186a058001012218102) hl nl,?_⟩
 z_run
 have k0:∀k∈ks,k<16:=fun k h=>Bt ((ok.ab k).mp (hks k h)).1 ok.n16
 by_cases q0:ks=[]
 ·have hz:decide (((AL ks).length:Int)=0)=true:=decide_eq_true (by rw[q0];rfl)
  rw[hz]
  z_run
  by_cases z:sz=0
  ·rw[decide_eq_true (by with_unfolding_all exact congrArg BQ ((Al [_] 0x7017012) z))]
   z_run
   refine⟨by exact(Al [_,_] 0x186a058001012218102) hl nl,?_⟩
   z_run
   rw[hz]
   z_run
   exact⟨by rw[q0,z];rfl,C,fun uu uu e uu=>e⟩
  ·rw[decide_eq_false (by with_unfolding_all exact mt Cj ((Al [_] 0x57012570122) z))]
   z_run
   exact⟨by rw[q0];exact congrArg B5 (if_neg z).symm,C,fun uu uu e uu=>e⟩
 have l1:1≤ks.length:=JS.mpr q0
 rw[decide_eq_false (by with_unfolding_all exact mt Cj ((Al [_,_] 0x5701214021012) nl l1))]
 z_run
 refine⟨by exact(Al [_,_] 0x186a058001012218102) hl nl,?_⟩
 z_run
 by_cases q1:sz<ks.length
 ·rw[decide_eq_true (by with_unfolding_all exact C_.mpr ((Al [_,_,_] 0x140502405022112) nl q1))]
  z_run
  have w0:=VW (s:=s) q1 hl
  by_cases z:sz=0
  ·rw[decide_eq_true (by with_unfolding_all exact congrArg BQ ((Al [_] 0x7017012) z))]
   z_run
   refine⟨by exact(Al [_,_] 0x186a058001012218102) hl nl,?_⟩
   z_run
   rw[decide_eq_false (by with_unfolding_all exact mt Cj ((Al [_,_,_] 0x570121425021012) nl q1))]
   z_run
   exact⟨by rw[w0];rfl,C,fun uu uu e uu=>e⟩
  ·rw[decide_eq_false (by with_unfolding_all exact mt Cj ((Al [_] 0x57012570122) z))]
   z_run
   exact⟨by rw[w0];rfl,C,fun uu uu e uu=>e⟩
 rw[decide_eq_false (by with_unfolding_all exact EZ.mpr (Fo.mpr ((Al [_,_,_] 0x10524050222112) nl q1)))]
 z_run
 rw[C.c]
 z_run
 rcases C.k with⟨es,nn',hkc,kok⟩
 rw[hkc]
 z_run
 refine⟨(E5 ks sz).1,kok.keys,?_⟩
 cases he:EH (G8 ks sz) es with
 |some v=>
  rewrite[show EH (PV.tup [PV.tup (AL ks),B5 sz]) es=some v from he]
  z_run
  rw[C.c]
  z_run
  rw[hkc]
  z_run
  refine⟨(E5 ks sz).1,kok.keys,v,he,?_⟩
  z_run
  exact⟨kok.get he,C,fun uu uu e uu=>e⟩
 |none=>
  rewrite[show EH (PV.tup [PV.tup (AL ks),B5 sz]) es=none from he]
  z_run
  refine⟨by exact(Al [_,_] 0x186a058001012218102) hl nl,?_⟩
  z_run
  have okr:Ti ks sz:=⟨⟨l1,hl⟩,k0,h7⟩
  obtain ⟨d0,rfl⟩:∃d0,d=d0+4:=⟨d-4,by exact(Al [_,_,_] 0x41841806501405618212195502) hd⟩
  by_cases one:ks.length=1
  ·rw[decide_eq_true (by with_unfolding_all exact congrArg BQ ((Al [_,_] 0x40141121012) nl one))]
   z_run
   rw[C.c]
   have A:=C.at_
   k_one
   obtain ⟨k,hk⟩:∃k,ks=[k]:=Ir.mp one
   have hka:k∈s.abk:=hks k (by rw[hk];exact Ao.mpr rfl)
   refine⟨by decide,by decide,B5 k,by rw[hk];rfl,?_⟩
   z_run
   refine(So hx A ok hka).mono fun p H1 hq2=>?_
   refine L8 hq2 fun l nds e hl0 le hll perm=>?_;clear hq2
   subst e
   z_run
   rw[hll]
   z_run
   have ll:nds.length≤16:=by rw[perm.length_eq];exact Aa (Tg s k) ok.n16
   have s1:1≤sz:=by exact(Al [_,_] 0x40411251405022) q1 one
   have nkc:l≠kc:=fun e=>by rw[e,hkc] at hl0;exact HJ hl0
   refine⟨by rw[Ag _];exact Aa ‹_› (by decide),?_⟩
   refine CZ (fun m H'=>(∃z,m=[(A8 ".0",none),(A8 "node",z),(A8 "self",some (PV.inst 273 a dd)),(A8 "classes",some (PV.tup (AL ks))),(A8 "size",some (B5 sz)),(A8 "key",some (PV.tup [PV.tup (AL ks),B5 sz])),(A8 "found",none),(A8 "first",none),(A8 "here",none)])∧CAt L s mk dd kc H'∧Kp kc H1 H') (gP s (sz-1))
    (by rw[Ag _];exact Aa ‹_› (by decide)) ⟨⟨_,rfl⟩,C.le le,fun uu uu e uu=>e⟩ (fun uu uu hI=>hI.2.2 _ _ hll nkc) (fun x hx' acc m H' K ha hI k'=>?_) fun m H' hI c2 hc2=>?_
   ·refine DF hI fun z0 C' kp=>?_;clear hI;refine AI z0 fun z z1=>?_;clear z0;subst z1
    refine AB (AZ.mp hx') fun nd hnd z2=>?_;subst z2
    refine DF (VX ok (perm.mem_iff.mp hnd)) fun uu kl ka=>?_
    rw[Tk] at k'
    z_run
    rw[C'.c]
    z_run
    have nl':=AS nd.kids
    refine⟨by refine(?_:(AL nd.kids).length+1≤100000);exact(Al [_,_] 0x186a05840501012218102) kl nl',Ak _,CF (AM _),?_⟩
    z_run
    rw[show(sz:Int) -1=((sz-1:Nat):Int) by x_go]
    refine(ih (sz-1) (by exact(Al [_] 0x4406500402) s1) nd.kids H' (d0+4) (by exact(Al [_] 0x7184060718002) h7) (by exact(Al [_,_,_,_] 0x418256181406219550218102040243124418255618302195502) hd one s1 kl) kl ka C').mono fun p H2 hq3=>?_
    refine DF hq3 fun e1 C2 k2=>?_;clear hq3
    subst e1
    z_run
    exact⟨ha,k' _ _ ⟨⟨_,rfl⟩,C2,kp.trans k2⟩⟩
   ·refine DF hI fun z0 C' kp=>?_;clear hI;refine AI z0 fun z z1=>?_;clear z0;subst z1
    rw[YZ _ _ _]
    z_run
    refine⟨_,Ji _,by rw[Ag _,Ag _];exact Aa ‹_› (by decide),?_⟩
    have C2:=C'.le (Le.new (o:= .list (AL (nds.map fun nd=>Wt (T s) nd.kids (sz-1)))) hc2)
    have kf:=(Kp.le le).trans (kp.trans (Kp.le (Le.new (o:= .list (AL (nds.map fun nd=>Wt (T s) nd.kids (sz-1)))) hc2)))
    have ev:PV.int (((nds.map fun nd=>Wt (T s) nd.kids (sz-1)).map (fun n:Nat=>(n:Int))).sum)=B5 (Wt (T s) ks sz):=by
     rw[Jj _,hk]
     have:(nds.map fun nd=>Wt (T s) nd.kids (sz-1)).sum=T s sz k:=by
      rw[Rf (perm.map _)];rewrite[show sz=(sz-1)+1 by exact(Al [_] 0x44065010402) s1];rw[Sj _ _ _]
      rfl
     rw[this]
     rfl
    z_run
    rw[C2.c]
    z_run
    rcases C2.k with⟨es2,n2,h2,kok2⟩
    rw[h2]
    z_run
    refine⟨(E5 ks sz).1,kok2.keys,?_⟩
    rw[ev]
    have C3:=C2.set (es:=put (.tup [.tup (AL ks),B5 sz]) (B5 (Wt (T s) ks sz)) es2) (n:=if(EH (.tup [.tup (AL ks),B5 sz]) es2).isSome then n2 else n2+1) (kok2.put okr)
    z_run
    rw[C3.c]
    z_run
    refine⟨(E5 ks sz).1,(kok2.put okr).keys,_,Tj,?_⟩
    z_run
    exact⟨rfl,C3,kf.trans Kp.set⟩
  ·rw[decide_eq_false (by with_unfolding_all exact mt Cj ((Al [_,_] 0x540125411221012) nl one))]
   z_run
   obtain ⟨k1,k2,hk⟩:∃k1 k2,ks=[k1,k2]:=VY (by exact(Al [_] 0x218015401220402218002) hl l1 one)
   have nk:(AL ks).length=2:=by rw[hk];rfl
   have e1:List.take 1 (AL ks)=AL [k1]:=by rw[hk];rfl
   have e2:List.drop 1 (AL ks)=AL [k2]:=by rw[hk];rfl
   have h1:k1∈s.abk:=hks k1 (by rw[hk];exact Ab ..)
   have h2:k2∈s.abk:=hks k2 (by rw[hk];exact Af _ (Ab ..))
   refine⟨by exact(Al [_] 0x186a05800218012) nk,?_⟩
   z_run
   rw[show(sz:Int) -((AL ks).length:Int)+2=(sz:Int) by x_go]
   have sm1:small 1:=by unfold small;x_go
   have smz:small (sz:Int):=by unfold small;exact UD ((Al [_] 0x4000000000000000084050718002) h7)
   refine⟨sm1,smz,?_⟩
   z_run
   refine⟨sm1,smz,?_⟩
   have n16:=ok.n16
   refine Ex (fun pre m H'=>(∃z1 z2,m=[(A8 "self",some (PV.inst 273 a dd)),(A8 "classes",some (PV.tup (AL ks))),(A8 "size",some (B5 sz)),(A8 "key",some (PV.tup [PV.tup (AL ks),B5 sz])),(A8 "found",some (B5 (((Am pre.length).map fun i=>T s (i+1) k1*T s (sz-(i+1)) k2).sum))),(A8 "first",z1),(A8 "here",z2)])∧CAt L s mk dd kc H'∧Kp kc H H')
    (all:=(Am ((sz:Int) -1).toNat).map fun i=>PV.int (1+BQ i)) (fun uu uu uu uu=>trivial) (fun pre x rest m H' ee hI K kn kb kr=>?_) (fun m H' hI=>?_) (pre:=[]) rfl ⟨⟨_,_,rfl⟩,C,fun uu uu e uu=>e⟩
   ·refine DF hI fun z0 C' kp=>?_;clear hI;refine IV z0 fun z1 z2 z2=>?_;clear z0;subst z2
    have hxi:x=B5 (pre.length+1)∧pre.length<sz-1:=by
     have h:=congrArg (·[pre.length]?) ee
     simp only[Cu (Ak _),M0,C7,Bc] at h
     by_cases hlt:pre.length<((sz:Int) -1).toNat
     ·rw[Dy hlt] at h
      replace h:=Ai h;subst h
      exact⟨congrArg PV.int (by refine(?_:1+(pre.length:Int)=((pre.length+1:Nat):Int));x_go),by x_go⟩
     ·rw[Bg (by rw[AO];x_go)] at h
      exact CC h
    refine Aw hxi fun z0 hpl=>?_;clear hxi;subst z0
    rw[Dg,IR,Bi,IQ,Cn,List.sum_singleton] at kn
    clear kb kr ee
    generalize pre.length=i at hpl kn ⊢
    z_run
    rw[C'.c]
    z_run
    refine⟨by exact(Al [_] 0x186a05800218012) nk,by x_go,?_⟩
    rw[e1]
    z_run
    refine(ih (i+1) (by exact(Al [_,_] 0x144055041640502) hpl) [k1] H' (d0+4) (by exact(Al [_,_] 0x718405041640502718102) h7 hpl) (by refine(?_:2*(i+1)+1+6≤_);exact(Al [_,_,_,_] 0x418156184405219550426405024418155618322195502) hd hpl) (BM 1) (fun k h=>by rw[Ao.mp h];exact h1) C').mono fun p H2 hq4=>?_
    refine DF hq4 fun e1' C2 kp2=>?_;clear hq4
    subst e1'
    z_run
    have w1:Wt (T s) [k1] (i+1)=T s (i+1) k1:=rfl
    rw[w1]
    by_cases pos:0<T s (i+1) k1
    ·rw[decide_eq_true (by with_unfolding_all exact C_.mpr ((Al [_] 0x4750047502) pos))]
     z_run
     rw[C2.c]
     z_run
     refine⟨by exact(Al [_] 0x186a05800218012) nk,Ak _,by x_go,?_⟩
     rw[e2]
     z_run
     rw[show(sz:Int) -((i+1:Nat):Int)=((sz-(i+1):Nat):Int) by x_go]
     refine(ih (sz-(i+1)) (by exact(Al [_,_] 0x4415065040641502) hpl) [k2] H2 (d0+4) (by exact(Al [_,_] 0x718415060718002) h7) (by refine(?_:2*(sz-(i+1))+1+6≤_);exact(Al [_,_,_,_] 0x41825618441506219550406415024418255618302195502) hd hpl) (BM 1) (fun k h=>by rw[Ao.mp h];exact h2) C2).mono fun p H3 hq5=>?_
     refine DF hq5 fun e1' C3 kp3=>?_;clear hq5
     subst e1'
     z_run
     refine⟨Qk n16 (by exact(Al [_,_] 0x818405041640502718102) h7 hpl) k1,Qk n16 (show sz-(i+1)≤8 by exact(Al [_,_] 0x818415060718002) h7) k2,?_⟩
     z_run
     refine(kn _ _ ⟨⟨some (B5 (i+1)),some (B5 (T s (i+1) k1)),?_⟩,C3,kp.trans (kp2.trans kp3)⟩).1
     rfl
    ·rw[decide_eq_false (by with_unfolding_all exact EZ.mpr (Fo.mpr ((Al [_] 0x70050475022) pos)))]
     z_run
     rw[show T s (i+1) k1=0 by exact(Al [_] 0x70150475022) pos,Nat.zero_mul,Nat.add_zero] at kn
     exact(kn _ _ ⟨⟨some (B5 (i+1)),some (B5 (T s (i+1) k1)),rfl⟩,C2,kp.trans kp2⟩).1
   ·refine DF hI fun z0 C' kf=>?_;clear hI;refine IV z0 fun z1 z2 z2=>?_;clear z0;subst z2
    have ev:B5 (((Am ((Am ((sz:Int) -1).toNat).map fun i=>PV.int (1+BQ i)).length).map fun i=>T s (i+1) k1*T s (sz-(i+1)) k2).sum)=B5 (Wt (T s) ks sz):=by
     rw[Ag _,AO,show((sz:Int) -1).toNat=sz-1 by x_go,hk]
     rfl
    z_run
    rw[C'.c]
    z_run
    rcases C'.k with⟨es2,n2,h2,kok2⟩
    rw[h2]
    z_run
    refine⟨(E5 ks sz).1,kok2.keys,?_⟩
    rw[ev]
    have C3:=C'.set (es:=put (.tup [.tup (AL ks),B5 sz]) (B5 (Wt (T s) ks sz)) es2) (n:=if(EH (.tup [.tup (AL ks),B5 sz]) es2).isSome then n2 else n2+1) (kok2.put okr)
    z_run
    rw[C3.c]
    z_run
    refine⟨(E5 ks sz).1,(kok2.put okr).keys,_,Tj,?_⟩
    z_run
    exact⟨rfl,C3,kf.trans Kp.set⟩
end
end
section
open Classical
def Dd (s:HS):PV:= .tup [B5 s.nodes.length,B5 s.edges.length]
structure CPre (L:Lay)(s:HS)(mk:PV)(dd kc:Addr)(H:AH):Prop where
 at_:At L s H
 c:H dd=some (.attrs [(.str "heap",Ft L),(.str "mark",mk),(.str "known", .loc kc)])
 nd:¬ON L s dd
 mkd:mk.data=true∧mk.deep≤100
 good:mk=Dd s→CAt L s mk dd kc H
theorem CAt.pre {L:Lay}{s:HS}{dd kc:Addr}{H:AH}(C:CAt L s (Dd s) dd kc H):CPre L s (Dd s) dd kc H:=
 ⟨C.at_,C.c,C.nd,⟨rfl,(by decide:1≤100)⟩,fun uu=>C⟩
theorem CPre.le {L:Lay}{s:HS}{mk:PV}{dd kc:Addr}{H H':AH}(C:CPre L s mk dd kc H)(l:Le H H'):CPre L s mk dd kc H':=
 ⟨C.at_.le l,l _ _ C.c,C.nd,C.mkd,fun e=>(C.good e).le l⟩
structure Ren (dd kc0:Addr)(H0 H1:AH)(kc1:Addr):Prop where
 kp:∀b o,H0 b=some o→b≠dd→b≠kc0→H1 b=some o
 kc:kc1=kc0∨H0 kc1=none
theorem Ren.refl (dd kc:Addr)(H:AH):Ren dd kc H H kc:=⟨fun uu uu e uu uu=>e, .inl rfl⟩
theorem Ren.le {dd kc:Addr}{H H':AH}(l:Le H H'):Ren dd kc H H' kc:=⟨fun uu uu e uu uu=>l _ _ e, .inl rfl⟩
theorem Ren.trans {dd k0 k1 k2:Addr}{H0 H1 H2:AH}{o:PO}(hdd:H1 dd=some o)(x:Ren dd k0 H0 H1 k1)(y:Ren dd k1 H1 H2 k2):Ren dd k0 H0 H2 k2:=by
 refine⟨fun b o e n1 n2=>y.kp b o (x.kp b o e n1 n2) n1 fun z=>?_,?_⟩
 ·rcases x.kc with h|h
  ·exact n2 (z.trans h)
  ·rw[z,h] at e;exact CC e
 ·rcases y.kc with h|h
  ·rw[h];exact x.kc
  ·cases z:H0 k2 with
   |none=>exact .inr rfl
   |some o2=>
    by_cases q:k2=k0
    ·exact .inl q
    ·rw[x.kp k2 o2 z (fun w=>by rw[w,hdd] at h;exact HJ h) q] at h
     exact HJ h
section
variable {X:Ctx}{L:Lay}{s:HS}{mc:Nat}{mk:PV}{a dd kc:Addr}{H:AH}{d:Nat}
theorem Ug (hx:XOk X)(ok:Ok s mc)(hmc:mc≤1000)(C:CPre L s mk dd kc H){sz:Nat}(hs:sz≤200):
  Bz X (d+3) (.raw (.ref 211)) [.inst 273 a dd,B5 sz] H fun p H'=>p= .none∧∃kc',CAt L s (Dd s) dd kc' H'∧Ren dd kc H H' kc':=by
 have n16:=ok.n16
 have eL:=ok.edL
 refine CU hx.K ["self","size"] (by z_go) (by z_go) (by decide+kernel) (by x_run) ?_
 z_run
 rw[decide_eq_false (by with_unfolding_all exact EZ.mpr (Fo.mpr ((Al [_] 0xc82800c828002) hs)))]
 z_run
 rw[C.c]
 have A:=C.at_
 k_one
 refine(Ho hx A (by exact Aa ‹_› (by decide))).mv ?_
 z_run
 rw[C.c]
 k_one
 refine⟨by exact(Al [_,_,_,_] 0x186a058001253050210282023e838102) hmc n16 eL,?_⟩
 z_run
 rw[C.c]
 z_run
 refine⟨rfl,C.mkd.1,(by decide:1≤100),C.mkd.2,?_⟩
 by_cases q:mk=Dd s
 ·rewrite[decide_eq_true (show PV.tup [B5 s.nodes.length,PV.int s.edges.length]=mk from q.symm)]
  z_run
  subst q
  exact⟨rfl,kc,C.good rfl, .refl ..⟩
 ·rewrite[decide_eq_false (show¬PV.tup [B5 s.nodes.length,PV.int s.edges.length]=mk from fun e=>q e.symm)]
  z_run
  rw[C.c]
  z_run
  have A2:At L s (H.set dd (.attrs [(.str "heap",Ft L),(.str "mark",Dd s),(.str "known", .loc kc)])):=A.keep Kp.set C.nd
  have keepH:∀b o,H b=some o→b≠dd→(H.set dd (.attrs [(.str "heap",Ft L),(.str "mark",Dd s),(.str "known", .loc kc)])) b=some o:=fun b o e n=>by rw[AH.set_ne n];exact e
  have self2:(H.set dd (.attrs [(.str "heap",Ft L),(.str "mark",Dd s),(.str "known", .loc kc)])) dd=some (.attrs [(.str "heap",Ft L),(.str "mark",Dd s),(.str "known", .loc kc)]):=AH.set_self ..
  have back2:∀b,b≠dd→(H.set dd (.attrs [(.str "heap",Ft L),(.str "mark",Dd s),(.str "known", .loc kc)])) b=H b:=fun b n=>AH.set_ne n
  refine(?_:∀c,(H.set dd (.attrs [(.str "heap",Ft L),(.str "mark",Dd s),(.str "known", .loc kc)])) c=none→ds X (d+2) _ (.q (.loc c)) ((H.set dd (.attrs [(.str "heap",Ft L),(.str "mark",Dd s),(.str "known", .loc kc)])).set c (.dict [] 0)))
  generalize (H.set dd (.attrs [(.str "heap",Ft L),(.str "mark",Dd s),(.str "known", .loc kc)]))=H2 at A2 keepH self2 back2 ⊢
  intro c hc
  z_run
  rw[Le.new (o:= .dict [] 0) hc _ _ self2]
  z_run
  have ne:c≠dd:=fun e=>by rw[e,self2] at hc;exact HJ hc
  refine⟨rfl,c,⟨(A2.le (Le.new hc)).keep Kp.set C.nd,AH.set_self ..,⟨[],0,by rw[AH.set_ne ne,AH.set_self _ _ _];rfl,CN,nofun⟩,A2.notOur hc,C.nd,fun e=>ne e.symm⟩,⟨fun b o e n1 n2=>?_, .inr (by rw[←back2 c ne];exact hc)⟩⟩
  rw[AH.set_ne n1]
  exact Le.new hc _ _ (keepH b o e n1)
theorem VZ (hx:XOk X)(ok:Ok s mc)(hmc:mc≤1000)(C:CPre L s mk dd kc H){c sz:Nat}(hc:c<s.nodes.length)(hs:sz≤7):
  Bz X (d+30) (.raw (.ref 218)) [.inst 273 a dd,B5 c,B5 sz] H fun p H'=>p=B5 (T s sz (BG s.up c))∧∃kc',CAt L s (Dd s) dd kc' H'∧Ren dd kc H H' kc':=by
 have n16:=ok.n16
 have nU:=ok.nU
 refine CU hx.K ["self","c","size"] (by z_go) (by z_go) (by decide+kernel) (by x_run) ?_
 z_run
 rw[C.c]
 z_run
 refine(Ug hx ok hmc C (show sz≤200 by exact Aa ‹_› (by decide))).mono fun p H1 hq2=>?_
 refine Aw hq2 fun uu zr=>?_;clear hq2;refine AB zr fun kc' C1 r1=>?_;clear zr
 z_run
 rw[C1.c]
 have A:=C1.at_
 z_run
 rw[C1.c]
 k_one
 refine(Hm hx A ok.up (by exact(Al [_,_,_] 0x140502112240502) hc nU) (by exact(Al [_,_] 0x3e8380010121028102) n16 nU)).mv ?_
 z_run
 have rr:=FL ok.up c c (Ak _)
 refine(Y_ hx ok sz [BG s.up c] H1 (d+29) hs (by refine(?_:2*sz+1+6≤_);exact(Al [_,_] 0x1d281561840219550718002) hs) (BM 1) (fun k h=>by rw[Ao.mp h];exact(ok.ab _).mpr ⟨by exact(Al [_,_,_,_] 0x1405020003132142502) hc rr,rr.1⟩) C1).mono fun p H3 hq4=>?_
 refine DF hq4 fun e1 C3 k3=>?_;clear hq4
 z_run
 exact⟨e1,kc',C3,r1.trans C1.c ⟨fun b o e n1 n2=>k3 b o e n2, .inl rfl⟩⟩
def ej (s:HS)(c:Nat):PV→PV
 | .int k=>B5 (T s k.toNat (BG s.up c))
 |p=>p
theorem Z0 (hx:XOk X)(ok:Ok s mc)(hmc:mc≤1000)(C:CPre L s mk dd kc H){c sz:Nat}(hc:c<s.nodes.length)(hs:sz≤7):
  Bz X (d+31) (.raw (.ref 223)) [.inst 273 a dd,B5 c,B5 sz] H fun p H'=>p=B5 (((Am sz).map fun i=>T s (i+1) (BG s.up c)).sum)∧∃mk' kc',(mk'=mk∨mk'=Dd s)∧CPre L s mk' dd kc' H'∧Ren dd kc H H' kc'∧(H kc≠none→H' kc'≠none):=by
 refine CU hx.K ["self","c","size"] (by z_go) (by z_go) (by decide+kernel) (by x_run) ?_
 z_run
 have sm1:small 1:=by unfold small;x_go
 have smz:small ((sz:Int)+1):=by unfold small;x_go
 refine⟨sm1,smz,?_⟩
 z_run
 refine⟨sm1,smz,?_⟩
 have ei:(DH (fun i=>PV.int (1+BQ i)) (Am ((sz:Int)+1-1).toNat))=(Am sz).map fun i=>B5 (i+1):=by
  rw[show((sz:Int)+1-1).toNat=sz by x_go]
  exact AN fun i uu=>congrArg PV.int (by refine(?_:1+(i:Int)=((i+1:Nat):Int));x_go)
 rw[ei]
 refine CZ (fun m H'=>(∃z,m=[(A8 ".0",none),(A8 "here",z),(A8 "self",some (PV.inst 273 a dd)),(A8 "c",some (B5 c)),(A8 "size",some (B5 sz))])∧∃mk' kc',(mk'=mk∨mk'=Dd s)∧CPre L s mk' dd kc' H'∧Ren dd kc H H' kc'∧(H kc≠none→H' kc'≠none)) (ej s c)
  (by rw[Ag _,AO];exact Aa ‹_› (by decide)) ⟨⟨_,rfl⟩,mk,kc, .inl rfl,C, .refl ..,id⟩ (fun uu uu uu=>trivial) (fun x hx' acc m H' K ha hI k'=>?_) fun m H' hI c2 hc2=>?_
 ·refine Aw hI fun z0 zr=>?_;clear hI;refine AI z0 fun z z1=>?_;clear z0;subst z1;refine IW zr fun mk' kc' hmk C' r hk=>?_;clear zr
  refine AB (AZ.mp hx') fun i hi z2=>?_;subst z2
  have:=BA.mp hi
  z_run
  rw[C'.c]
  z_run
  refine(VZ hx ok hmc C' hc (show i+1≤7 by exact Bt ‹_› ‹_›)).m1 fun H2 zr=>?_
  refine AB zr fun kc2 C2 r2=>?_;clear zr
  z_run
  exact⟨ha,k' _ _ ⟨⟨_,rfl⟩,_,_, .inr rfl,C2.pre,r.trans C'.c r2,fun uu e=>by rcases C2.k with⟨es,n,h,_⟩;rw[h] at e;exact HJ e⟩⟩
 ·refine Aw hI fun z0 zr=>?_;clear hI;refine AI z0 fun z z1=>?_;clear z0;subst z1;refine IW zr fun mk' kc' hmk C' r hk=>?_;clear zr
  have eo:((Am sz).map fun i=>B5 (i+1)).map (ej s c)=AL ((Am sz).map fun i=>T s (i+1) (BG s.up c)):=by
   unfold AL
   rw[AW,AW]
   rfl
  rw[eo]
  z_run
  refine⟨_,Ji _,by rw[Ag _,Ag _,AO];exact Aa ‹_› (by decide),?_⟩
  rw[Jj _]
  z_run
  exact⟨rfl,mk',kc',hmk,C'.le (Le.new hc2),r.trans C'.c (Ren.le (Le.new hc2)),fun h e=>hk h (Le.none (Le.new hc2) e)⟩
theorem V_ (hx:XOk X){L:Lay}:Bz X (d+2) (.raw (.ref 273)) [Ft L] H fun p H'=>∃a dd kc,p= .inst 273 a dd∧
  Grown H H' [(dd, .attrs [(.str "heap",Ft L),(.str "mark", .none),(.str "known", .loc kc)]),(kc, .dict [] 0)]:=by
 refine Nj (fI:=204) (by rw[hx.K];z_go) (by rw[hx.K];z_go) (by rw[hx.K];z_go) (by rw[hx.K];z_go) fun a dd hdd=>?_
 have N:=Grown.one (o:= .attrs []) hdd
 generalize H.set dd (.attrs [])=H1 at N ⊢
 refine R8 hx.K ["self","heap"] (by z_go) (by z_go) (by decide+kernel) (by x_run) ?_
 z_run
 rw[N.dd]
 z_run
 intro kc hkc
 z_run
 generalize hH2:(AH.set (AH.set H1 dd _) dd _)=H2 at hkc ⊢
 have nil:∀H:AH,Grown H H []:=fun uu=>⟨Le.refl _,CN,fun uu m=>absurd m Be⟩
 have N:=(N.more (nil _) rfl).more (nil _) hH2
 rw[Le.new (o:= .dict [] 0) hkc _ _ N.dd]
 z_run
 generalize hH3:AH.set _ dd _=H3
 have N:=N.more (.one hkc) hH3
 exact⟨rfl,a,dd,kc,rfl,N⟩
theorem XU (hx:XOk X)(A:At L s H)(ok:Ok s mc)(hmc:mc≤1000)(h16:s.nodes.length<16){x:Str}(hop:Gq x):
  Bz X (d+6) (.raw (.ref 395)) [Ft L, .tup [.str x]] H fun p H'=>∃i L' s',p=B5 i∧i<s'.nodes.length∧L.Like L'∧At L' s' H'∧Step L s H L' s' H'∧Ok s' mc∧s.nodes.length≤s'.nodes.length∧s'.nodes.length≤s.nodes.length+1:=by
 refine CU hx.K ["self","term"] (by z_go) (by z_go) (by decide+kernel) (by x_run) ?_
 k_one
 refine⟨by decide,by decide, .str x,rfl,?_⟩
 z_run
 refine⟨(by decide:1≤100000),Ak _,Ak _,?_⟩
 z_run
 refine⟨AM _,?_⟩
 rw[show List.drop 1 [PV.str x]=[] from rfl];rewrite[Ms]
 refine⟨trivial,fun c hc=>?_⟩
 z_run
 refine⟨AM _,?_⟩
 z_run
 have l:=Le.new (o:= .list []) hc
 refine(VS hx (A.le l) ok hmc h16 (nd:=⟨x,[]⟩) hop (.inl rfl) (AM _) (fun k h=>by cases h)).mono fun p H' hq6=>?_
 refine Tq hq6 fun i L' s' h1 h2 h3 h4 h5 h6=>?_;clear hq6
 z_run
 exact bB i L' s' h1 h2 h3 h4 ((Step.le l).trans h5) h6
end
end
section
open Classical
def Zm (bx rl:Addr)(N:Nat)(H:AH):Prop:=bx≠rl∧∃n xs,n≤N∧xs.length≤1000∧H bx=some (.list [.loc rl,B5 n])∧H rl=some (.list (AL xs))
section
variable {X:Ctx}{H:AH}{d:Nat}
theorem Im (hx:XOk X){bx rl:Addr}{N many:Nat}(b:Zm bx rl N H)(hN:N≤1000)(hm:1≤many):
  Bz X (d+1) (.raw (.ref 497)) [.loc bx,B5 many] H fun p H'=>(∃r,r<many∧p=B5 r)∧Zm bx rl (N+1) H'∧∀a o,H a=some o→a≠bx→a≠rl→H' a=some o:=by
 refine Aw b fun ne zr=>?_;clear b;refine IW zr fun n xs h1 h2 h3 h4=>?_;clear zr
 have fin:∀(z:Int) (H4:AH) (ys:List Nat),ys.length≤1000→H4 bx=some (.list [.loc rl,B5 (n+1)])→H4 rl=some (.list (AL ys))→(∀a o,H a=some o→a≠bx→a≠rl→H4 a=some o)→
   (∃r,r<many∧PV.int (z.fmod many)=B5 r)∧Zm bx rl (N+1) H4∧∀a o,H a=some o→a≠bx→a≠rl→H4 a=some o:=fun z H4 ys hy e1 e2 e3=>by
  have l:=Int.fmod_lt_of_pos z (show(0:Int)<many by exact C_.mpr ((Al [_] 0x47500402) hm))
  have g:=IC z (show(0:Int)<many by exact C_.mpr ((Al [_] 0x47500402) hm))
  exact⟨⟨(z.fmod many).toNat,by x_go,congrArg PV.int (by x_go)⟩,⟨ne,n+1,ys,by exact(Al [_,_] 0x41540501002) h1,hy,e1,e2⟩,e3⟩
 refine CU hx.K ["box","many"] (by z_go) (by z_go) (by decide+kernel) (by x_run) ?_
 z_run
 rw[h3]
 z_run
 refine⟨by decide,by decide,B5 n,rfl,?_⟩
 z_run
 rw[h3]
 z_run
 refine⟨by decide,by decide,(by decide:1<2),(by decide:2≤100000),?_⟩
 have s2:(H.set bx (.list [.loc rl,B5 (n+1)])) bx=some (.list [.loc rl,B5 (n+1)]):=AH.set_self ..
 have r2:(H.set bx (.list [.loc rl,B5 (n+1)])) rl=some (.list (AL xs)):=by rewrite[AH.set_ne (fun e=>ne e.symm)];exact h4
 have k2:∀a o,H a=some o→a≠bx→a≠rl→(H.set bx (.list [.loc rl,B5 (n+1)])) a=some o:=fun a o e n1 uu=>by rw[AH.set_ne n1];exact e
 rw[show([PV.loc rl,B5 n].set (FY 1) (PV.int ((n:Int)+1)))=[.loc rl,B5 (n+1)] from rfl]
 generalize H.set bx (.list [.loc rl,B5 (n+1)])=H2 at s2 r2 k2 ⊢
 z_run
 rw[s2]
 z_run
 refine⟨by decide,by decide, .loc rl,rfl,?_⟩
 z_run
 intro c hc
 have l3:=Le.new (o:= .list []) hc
 have c3:(H2.set c (.list [])) c=some (.list []):=AH.set_self ..
 have b3:=l3 _ _ s2
 have q3:=l3 _ _ r2
 have k3:∀a o,H a=some o→a≠bx→a≠rl→(H2.set c (.list [])) a=some o:=fun a o e n1 n2=>l3 _ _ (k2 a o e n1 n2)
 generalize H2.set c (.list [])=H3 at l3 c3 b3 q3 k3 ⊢
 have dx:=Ce xs
 z_run
 refine Ic _ _ q3 c3 dx.1 rfl (by rw[dx.2];decide) (AM _) ?_
 by_cases q:xs=[]
 ·rewrite[decide_eq_true (by rw[q];rfl)]
  z_run
  rw[b3]
  z_run
  have rn:room ((n+1:Nat):Int):=I0 (k:=20) (by x_go) (by decide)
  refine⟨by decide,by decide,B5 (n+1),rfl,?_⟩
  z_run
  refine⟨I0 (n:=4) (k:=20) (by decide) (by decide),rn,?_⟩
  z_run
  rw[b3]
  z_run
  refine⟨by decide,by decide,B5 (n+1),rfl,?_⟩
  z_run
  have r4:room (4*((n+1:Nat):Int)):=by
   have:=I0 (n:=4*(n+1)) (k:=20) (by x_go) (by decide)
   rwa [Int.natCast_mul] at this
  refine⟨r4,rn,?_⟩
  z_run
  rw[b3]
  z_run
  refine⟨by decide,by decide,B5 (n+1),rfl,?_⟩
  z_run
  refine⟨by exact mt Cj ((Al [_] 0x570120402) hm),?_⟩
  z_run
  exact fin _ _ xs h2 b3 q3 k3
 ·rewrite[decide_eq_false (fun e=>q (by induction xs using Az with|nil=>rfl|cons _ _=>cases e))]
  z_run
  rw[b3]
  z_run
  refine⟨by decide,by decide, .loc rl,rfl,?_⟩
  z_run
  rw[q3]
  z_run
  rw[q3]
  z_run
  obtain ⟨w,m,hw⟩:∃w m,xs=w++[m]:=⟨_,_,(DM q).symm⟩
  have hw2:AL xs=AL w++[B5 m]:=by rw[hw,FF _ _];rfl
  have hwl:xs.length=w.length+1:=by rw[hw,Dg _ _];rfl
  refine⟨B5 m,by rw[hw2,Ju];rfl,by rw[AS _];exact Aa ‹_› (by decide),?_⟩
  rw[hw2,Jv]
  z_run
  refine⟨by exact mt Cj ((Al [_] 0x570120402) hm),?_⟩
  z_run
  exact fin (m:Int) _ w (by exact(Al [_,_] 0x3e838004051123e838102) h2 hwl) (by rw[AH.set_ne ne];exact b3) (AH.set_self ..) fun a o e n1 n2=>by rw[AH.set_ne n2];exact k3 a o e n1 n2
end
end
section
open Classical
structure Tbl (cs:List Nat)(tb:Addr)(tc:Nat→Addr)(tv:Nat→List Nat)(H:AH):Prop where
 d:∃n,H tb=some (.dict (cs.map fun c=>(B5 c, .loc (tc c))) n)
 l:∀c∈cs,H (tc c)=some (.list (AL (tv c)))
 len:∀c∈cs,(tv c).length=8
 rm:∀c∈cs,∀i,room ((tv c).getD i 0:Nat)
 nd:cs.Nodup
 cl:cs.length≤16
theorem Tbl.le {cs:List Nat}{tb:Addr}{tc:Nat→Addr}{tv:Nat→List Nat}{H H':AH}(t:Tbl cs tb tc tv H)(l:Le H H'):Tbl cs tb tc tv H':=
 ⟨t.d.imp fun uu h=>l _ _ h,fun c h=>l _ _ (t.l c h),t.len,t.rm,t.nd,t.cl⟩
theorem Jl {cs:List Nat}{f:Nat→PV}(hn:cs.Nodup)(hl:cs.length≤16):Bw (cs.map fun c=>(B5 c,f c)):=by
 unfold Bw
 rw[AW]
 have:(cs.map ((·.1)∘fun c=>(B5 c,f c)))=AL cs:=rfl
 rw[this]
 exact⟨(Ce cs).1,Cg.mpr (hn.imp fun h e=>h (EM e)),by rw[Ag _];exact Aa ‹_› (by decide),by rw[(Ce cs).2];decide⟩
theorem Io {cs:List Nat}{f:Nat→PV}{c:Nat}(h:c∈cs):EH (B5 c) (cs.map fun c=>(B5 c,f c))=some (f c):=by
 induction cs with
 |nil=>cases h
 |cons k cs ih=>
  rw[B9];rewrite[HR]
  by_cases e:k=c
  ·subst e;rw[if_pos rfl];rfl
  ·rewrite[if_neg fun z=>e (EM z)]
   exact ih ((Aq.mp h).resolve_left fun z=>e z.symm)
theorem My {l:List Nat}{i:Nat}(h:i<l.length):(AL l)[i]? =some (B5 (l.getD i 0)):=by
 unfold AL
 rw[Bc,Ah h,Av,Ah h]
 rfl
def aR (a b:List Nat)(left:Nat):PV→PV
 | .int k=>B5 (a.getD k.toNat 0*b.getD (left-k.toNat) 0)
 |p=>p
section
variable {X:Ctx}{H:AH}{d:Nat}
theorem Tbl.ok {cs:List Nat}{tb:Addr}{tc:Nat→Addr}{tv:Nat→List Nat}(t:Tbl cs tb tc tv H):Bw (cs.map fun c=>(B5 c,PV.loc (tc c))):=Jl t.nd t.cl
theorem Z1 (hx:XOk X){cs:List Nat}{tb:Addr}{tc:Nat→Addr}{tv:Nat→List Nat}(t:Tbl cs tb tc tv H){ks:List Nat}{left:Nat}(hl:left≤7)(hk:ks.length≤2)(hks:∀k∈ks,k∈cs):
  Bz X (d+1) (.raw (.ref 507)) [.loc tb, .tup (AL ks),B5 left] H fun p H'=>p=B5 (Wt (fun i c=>(tv c).getD i 0) ks left)∧Le H H':=by
 rcases t.d with⟨n,htb⟩
 have dk:=Ce ks
 have nl:=AS ks
 refine CU hx.K ["table","kids","left"] (by z_go) (by z_go) (by decide+kernel) (by x_run) ?_
 z_run
 refine⟨dk.1,rfl,by refine(?_:B_ (AL ks)+1≤100);rw[dk.2];decide,(by decide:1≤100),?_⟩
 by_cases q0:ks=[]
 ·rewrite[show decide (PV.tup (AL ks)=PV.tup [])=true from decide_eq_true (by rw[q0];rfl)]
  z_run
  rw[q0]
  by_cases z:left=0
  ·rw[decide_eq_true (by with_unfolding_all exact congrArg BQ ((Al [_] 0x7017012) z))]
   z_run
   exact⟨congrArg B5 (if_pos z).symm,Le.refl _⟩
  ·rw[decide_eq_false (by with_unfolding_all exact mt Cj ((Al [_] 0x57012570122) z))]
   z_run
   exact⟨congrArg B5 (if_neg z).symm,Le.refl _⟩
 rewrite[show decide (PV.tup (AL ks)=PV.tup [])=false from decide_eq_false (fun e=>q0 (Jk (b:=[]) (PV.tup.inj e)))]
 z_run
 refine⟨by exact(Al [_,_] 0x186a058001012218102) hk nl,?_⟩
 z_run
 by_cases one:ks.length=1
 ·obtain ⟨k,rfl⟩:∃k,ks=[k]:=Ir.mp one
  rw[decide_eq_true (by with_unfolding_all exact congrArg BQ ((Al [_,_] 0x40141121012) nl one))]
  z_run
  refine⟨by decide,by decide,B5 k,rfl,?_⟩
  z_run
  rw[htb]
  z_run
  have hk:k∈cs:=hks k (Ao.mpr rfl)
  refine⟨Ei k,t.ok,_,Io hk,?_⟩
  z_run
  rw[t.l k hk]
  z_run
  have hlen:=t.len k hk
  refine⟨by exact AY _,by exact Kl ((Al [_] 0x4000000000000000084050718002) hl),_,My (i:=left) (by exact(Al [_,_] 0x14050818112718002) hl hlen),?_⟩
  z_run
  exact⟨rfl,Le.refl _⟩
 ·obtain ⟨k1,k2,rfl⟩:∃k1 k2,ks=[k1,k2]:=VY (by have:=JS.mpr q0;exact(Al [_] 0x21801047502540122218002) hk one this)
  rw[decide_eq_false (by with_unfolding_all exact mt Cj ((Al [_,_] 0x540125411221012) nl one))]
  z_run
  have h1:k1∈cs:=hks k1 (Ab ..)
  have h2:k2∈cs:=hks k2 (Af _ (Ab ..))
  have e1:=t.len k1 h1
  have e2:=t.len k2 h2
  have sm1:small 1:=by unfold small;x_go
  have sml:small (left:Int):=by unfold small;exact UD ((Al [_] 0x4000000000000000084050718002) hl)
  refine⟨sm1,sml,?_⟩
  z_run
  refine⟨sm1,sml,?_⟩
  have ei:(DH (fun i=>PV.int (1+BQ i)) (Am ((left:Int) -1).toNat))=(Am (left-1)).map fun i=>B5 (i+1):=by
   rw[show((left:Int) -1).toNat=left-1 by x_go]
   exact AN fun i uu=>congrArg PV.int (by refine(?_:1+(i:Int)=((i+1:Nat):Int));x_go)
  rw[ei]
  refine CZ (fun m H'=>(∃z,m=[(A8 ".0",none),(A8 "first",z),(A8 "table",some (PV.loc tb)),(A8 "kids",some (PV.tup (AL [k1,k2]))),(A8 "left",some (B5 left))])∧H'=H) (aR (tv k1) (tv k2) left)
   (by rw[Ag _,AO];exact(Al [_] 0x186a0584060718002) hl) ⟨⟨_,rfl⟩,rfl⟩ (fun uu uu uu=>trivial) (fun x hx' acc m H' K ha hI k'=>?_) fun m H' hI c2 hc2=>?_
  ·refine Aw hI fun z0 z1=>?_;clear hI;refine AI z0 fun z z1=>?_;clear z0;subst z1;subst z1
   refine AB (AZ.mp hx') fun i hi z2=>?_;subst z2
   have:=BA.mp hi
   z_run
   refine⟨by decide,by decide,B5 k1,rfl,?_⟩
   z_run
   rw[htb]
   z_run
   refine⟨Ei k1,t.ok,_,Io h1,?_⟩
   z_run
   rw[t.l k1 h1]
   z_run
   refine⟨by exact AY _,by exact Kl ((Al [_,_] 0x40000000000000000844055041640502718102) hl this),_,My (i:=i+1) (by exact(Al [_,_,_] 0x144055042640502818112718202) hl e1 this),?_⟩
   z_run
   refine⟨by decide,by decide,B5 k2,rfl,?_⟩
   z_run
   rw[htb]
   z_run
   refine⟨Ei k2,t.ok,_,Io h2,?_⟩
   z_run
   rw[t.l k2 h2,show(left:Int) -((i+1:Nat):Int)=((left-(i+1):Nat):Int) by x_go]
   z_run
   refine⟨by exact AY _,by exact Kl ((Al [_,_] 0x40000000000000000844150650718002) hl),_,My (i:=left-(i+1)) (by exact(Al [_,_,_] 0x244150650818212718002) hl e2),?_⟩
   z_run
   refine⟨t.rm k1 h1 _,t.rm k2 h2 _,?_⟩
   z_run
   exact⟨ha,k' _ _ ⟨⟨_,rfl⟩,rfl⟩⟩
  ·refine Aw hI fun z0 z1=>?_;clear hI;refine AI z0 fun z z1=>?_;clear z0;subst z1;subst z1
   have eo:((Am (left-1)).map fun i=>B5 (i+1)).map (aR (tv k1) (tv k2) left)=AL ((Am (left-1)).map fun i=>(tv k1).getD (i+1) 0*(tv k2).getD (left-(i+1)) 0):=by
    unfold AL
    rw[AW,AW]
    rfl
   rw[eo]
   z_run
   refine⟨_,Ji _,by rw[Ag _,Ag _,AO];exact(Al [_] 0x186a0584060718002) hl,?_⟩
   rw[Jj _]
   z_run
   exact⟨rfl,Le.new hc2⟩
end
end
section
open Classical
theorem JO {ok:AH→Prop}{asg:PV→LM→AH→(LM→AH→Prop)→Prop}{elt:List PV→LM→AH→(List PV→LM→AH→Prop)→Prop}(I:List PV→List PV→LM→AH→Prop){all:List PV}{K:List PV→LM→AH→Prop}
  (hok:∀pre acc m H,I pre acc m H→ok H)
  (step:∀pre x rest acc m H,all=pre++x::rest→I pre acc m H→∀K:List PV→LM→AH→Prop,(∀acc' m' H',I (pre++[x]) acc' m' H'→K acc' m' H')→asg x m H (Zj elt acc K))
  (fin:∀acc m H,I all acc m H→K acc m H):∀{rest pre acc:List PV} {m:LM} {H:AH},all=pre++rest→I pre acc m H→Fu ok asg elt rest acc m H K
 |[],pre,acc,m,H,e,h0=>by
  rewrite[Ms]
  rw[Di] at e
  exact⟨hok _ _ _ _ h0,fin acc m H (e▸h0)⟩
 |x::xs,pre,acc,m,H,e,h0=>by
  rewrite[Ky]
  exact⟨hok _ _ _ _ h0,step pre x xs acc m H e h0 _ fun acc' m' H' h'=>JO I hok step fin (rest:=xs) (pre:=pre++[x]) (by rw[e];simp) h'⟩
def Ot (nd:Node):PV:= .tup [.str nd.op, .tup (AL nd.kids)]
theorem Rh {a b:Node}(h:Ot a=Ot b):a=b:=by
 rcases a with⟨o,k⟩
 rcases b with⟨o',k'⟩
 simp only[Ot,PV.tup.injEq,Gh,PV.str.injEq,and_true] at h
 rw[h.1,Jk h.2];rfl
theorem Ql {nd:Node}(h:Gq nd.op):Cz (Ot nd):=by
 have n:=Ce nd.kids
 have o:(PV.str nd.op).data=true:=JJ h
 exact⟨by refine(?_:((PV.str nd.op).data&&(C9 (AL nd.kids)&&true))=true);rw[o,n.1];rfl,by refine(?_:DG 0 (DG (B_ (AL nd.kids)+1) 0)+1≤7);rw[n.2];decide,rfl⟩
def Kb (ns:List Node):List (PV×PV):=ns.map fun nd=>(Ot nd, .bool true)
theorem W1 {ns:List Node}(hn:ns.Nodup)(ho:∀nd∈ns,Gq nd.op)(hl:ns.length≤1000):Bw (Kb ns):=by
 unfold Bw Kb
 rw[AW]
 refine⟨FD fun p hp=>?_,Cg.mpr (hn.imp fun h e=>h (Rh e)),by rw[Ag _];exact Aa ‹_› (by decide),FE fun p hp=>?_⟩
 ·refine IX hp fun nd h=>?_
  exact(Ql (ho nd h)).1
 ·refine IX hp fun nd h=>?_
  exact(Ql (ho nd h)).2.1
theorem Uh {ns:List Node}{nd:Node}:put (Ot nd) (.bool true) (Kb ns)=Kb (if nd∈ns then ns else ns++[nd]):=by
 unfold Kb
 induction ns with
 |nil=>rfl
 |cons a ns ih=>
  rw[B9];rewrite[Li]
  by_cases e:a=nd
  ·subst e;rw[if_pos rfl,if_pos (Ab ..)];rfl
  ·rewrite[if_neg fun z=>e (Rh z)];rw[ih]
   by_cases h:nd∈ns
   ·rw[if_pos h,if_pos (Af _ h)];rfl
   ·rw[if_neg h];rewrite[if_neg fun z=>h ((Aq.mp z).resolve_left fun z=>e z.symm)];rfl
structure Lots (s:HS)(N:Nat)(cs:List Nat)(fc:Addr)(g:Nat→Addr)(ns:Nat→List Node)(H0 H:AH):Prop where
 le:Le H0 H
 fn:H0 fc=none
 d:∃n,H fc=some (.dict (cs.map fun c=>(B5 c, .loc (g c))) n)
 l:∀c∈cs,H0 (g c)=none∧g c≠fc∧∃n,H (g c)=some (.dict (Kb (ns c)) n)
 inj:∀c∈cs,∀c'∈cs,g c=g c'→c=c'
 nd:∀c∈cs,(ns c).Nodup∧(ns c).length≤N∧∀x,x∈ns c↔∃m,m<N∧BG s.up m=c∧x=cn s.up (s.nodes.getD m Fa)
theorem Lots.go {s:HS}{N:Nat}{cs:List Nat}{fc:Addr}{g:Nat→Addr}{ns:Nat→List Node}{H0 H H':AH}(x:Lots s N cs fc g ns H0 H)(l:Le H H'):Lots s N cs fc g ns H0 H':=
 ⟨x.le.trans l,x.fn,x.d.imp fun uu h=>l _ _ h,fun c h=>⟨(x.l c h).1,(x.l c h).2.1,(x.l c h).2.2.imp fun uu h=>l _ _ h⟩,x.inj,x.nd⟩
theorem Fb (up:List Nat):(DR up).Nodup:=I9.filter _
theorem GG {up:List Nat}{c:Nat}:c∈DR up↔c<up.length∧up.getD c c=c:=by
 unfold DR
 rewrite[Gf,BA];rw[decide_eq_true_eq];rfl
section
variable {X:Ctx}{L:Lay}{s:HS}{mc:Nat}{H:AH}{d:Nat}
theorem W2 (hx:XOk X)(A:At L s H)(ok:Ok s mc):
  Bz X (d+4) (.raw (.ref 502)) [Ft L] H fun p H'=>∃fc g ns,p= .loc fc∧Lots s s.nodes.length (DR s.up) fc g ns H H':=by
 have n16:=ok.n16
 have nU:=ok.nU
 refine CU hx.K ["heap"] (by z_go) (by z_go) (by decide+kernel) (by x_run) ?_
 have A0:=A
 k_one
 refine(Sc hx A (by exact(Al [_,_] 0x3e8380010121028102) n16 nU)).m2 fun lc H1 zr=>?_
 refine DF zr fun h0 le hlc=>?_;clear zr
 z_run
 rw[hlc]
 z_run
 have rl:(DR s.up).length≤16:=Aa (GF (Fb _) fun m h=>(GG.mp h).1) (by exact(Al [_,_] 0x10280010121028102) n16 nU)
 have nn:(AL (DR s.up)).Nodup:=Cg.mpr ((Fb s.up).imp fun h e=>h (EM e))
 refine⟨by rw[AS _];exact Aa ‹_› (by decide),?_⟩
 refine JO (fun pre acc m H'=>(∃z,m=[(A8 ".0",none),(A8 "c",z),(A8 "heap",some (Ft L)),(A8 "found",none),(A8 "n",none)])∧
   ∃(cs:List Nat) (g:Nat→Addr),pre=AL cs∧acc=cs.map (fun c=>PV.tup [B5 c, .loc (g c)])∧Le H1 H'∧(∀c∈cs,H1 (g c)=none∧H' (g c)=some (.dict [] 0))∧∀c∈cs,∀c'∈cs,g c=g c'→c=c') (all:=AL (DR s.up))
  (fun uu uu uu uu hI=>by refine Aw hI fun uu zr=>?_;clear hI;refine IW zr fun cs g uu uu l uu=>?_;clear zr;exact l _ _ hlc) (fun pre x rest acc m H' ee hI K k=>?_) (fun acc m H' hI c hc=>?_) (pre:=[]) rfl ⟨⟨_,rfl⟩,[],fun uu=>0,rfl,rfl,Le.refl _,nofun,nofun⟩
 ·refine Aw hI fun z0 zr=>?_;clear hI;refine AI z0 fun z z1=>?_;clear z0;subst z1;refine L8 zr fun cs g z2 z3 l hg inj=>?_;clear zr;subst z2;subst z3
  obtain ⟨j,hj,rfl⟩:∃j,j∈DR s.up∧B5 j=x:=AZ.mp (show x∈AL (DR s.up) by rw[ee];simp)
  have hn:j∉cs:=fun h=>by
   rw[ee] at nn
   exact(BJ.mp nn).2.2 (B5 j) (Bk h) (B5 j) (Ab ..) rfl
  have cl:cs.length≤16:=by
   have:=congrArg Do ee
   rw[AC,AS,AS] at this
   exact(Al [_,_,_] 0x1028002051121028102) rl this
  z_run
  intro c hc
  z_run
  refine⟨by rw[Ag _];exact Aa ‹_› (by decide),k _ _ _ ⟨⟨_,rfl⟩,cs++[j],fun i=>if i=j then c else g i,?_,?_,l.trans (Le.new hc),?_,?_⟩⟩
  ·rw[FF _ _];rfl
  ·rw[Bi,Cn]
   dsimp only
   rw[if_pos rfl]
   congr 1
   exact AN fun i hi=>by rewrite[if_neg fun e:i=j=>hn (e▸hi)];rfl
  ·intro i hi
   dsimp only
   by_cases q:i=j
   ·rw[if_pos q]
    refine⟨?_,AH.set_self ..⟩
    cases w:H1 c with
    |none=>rfl
    |some o=>rw[l _ _ w] at hc;exact HJ hc
   ·rw[if_neg q]
    have hi':i∈cs:=(B6.mp hi).resolve_right (by simpa using q)
    exact⟨(hg i hi').1,Le.new hc _ _ (hg i hi').2⟩
  ·intro i hi i' hi' e
   dsimp only at e
   have h1:∀i,i∈cs++[j]→i≠j→i∈cs:=fun i h q=>(B6.mp h).resolve_right (by simpa using q)
   have h2:∀i∈cs,g i≠c:=fun i h e=>by
    have:=(hg i h).2
    rw[e,hc] at this;exact CC this
   by_cases q:i=j
   ·by_cases q':i'=j
    ·rw[q,q'];rfl
    ·rw[if_pos q,if_neg q'] at e
     exact absurd e.symm (h2 i' (h1 i' hi' q'))
   ·by_cases q':i'=j
    ·rw[if_neg q,if_pos q'] at e
     exact absurd e (h2 i (h1 i hi q))
    ·rw[if_neg q,if_neg q'] at e
     exact inj i (h1 i hi q) i' (h1 i' hi' q') e
 ·refine Aw hI fun z0 zr=>?_;clear hI;refine AI z0 fun z z1=>?_;clear z0;subst z1;refine L8 zr fun cs g ecs z3 l hg inj=>?_;clear zr;subst z3
  have:=Jk ecs
  subst this
  obtain ⟨cs,hcs⟩:∃cs,cs=DR s.up:=⟨_,rfl⟩
  have cnd:=Fb s.up
  rw[←hcs] at rl nn hg inj cnd ⊢
  have ip:∀l:List Nat,Ed (l.map fun c=>PV.tup [B5 c, .loc (g c)])=some (l.map fun c=>(B5 c, .loc (g c))):=by
   intro l
   induction l with
   |nil=>rfl
   |cons a l ih=>refine(?_:(Ed (l.map _)).map _=_);rw[ih];rfl
  have pa:∀(l l0:List Nat),(l0++l).Nodup→E1 (l.map fun c=>(B5 c,PV.loc (g c))) (l0.map fun c=>(B5 c,PV.loc (g c)))=(l0++l).map fun c=>(B5 c,PV.loc (g c)):=by
   intro l
   induction l with
   |nil=>intro l0 _;rw[Di _];rfl
   |cons a l ih=>
    intro l0 h
    refine(?_:E1 _ (put _ _ _)=_)
    rewrite[LH (fun q hq e=>by
     refine AB (AZ.mp hq) fun b hb z2=>?_;subst z2
     have:=EM e
     subst this
     exact(BJ.mp h).2.2 b hb b (Ab ..) rfl)]
    have:=ih (l0++[a]) (by rw[E0 _ _ _];exact h)
    rw[Bi,Cn] at this
    rw[this,E0 _ _ _]
    rfl
  have pk:(cs.map fun c=>(B5 c,PV.loc (g c))).map (·.1)=AL cs:=by rw[AW];rfl
  z_run
  refine⟨_,ip cs,by rw[pk];exact(Ce cs).1,by rw[pk,(Ce cs).2];decide,fun q hq=>by refine IX hq fun b uu=>?_;rfl,by rw[Ag _];exact Aa ‹_› (by decide),fun fc n0 hfc=>?_⟩
  have:=pa cs [] (by simpa using cnd)
  rw[M1,Nc] at this
  rw[this]
  have l23:=(Le.new (o:= .list (cs.map fun c=>PV.tup [B5 c, .loc (g c)])) hc).trans (Le.new (o:= .dict (cs.map fun c=>(B5 c,PV.loc (g c))) n0) hfc)
  have l3:=(le.trans l).trans l23
  have gne:∀b∈cs,g b≠fc:=fun b hb e=>by
   have:=Le.new (o:= .list (cs.map fun c=>PV.tup [B5 c, .loc (g c)])) hc _ _ (hg b hb).2
   rw[e,hfc] at this
   exact CC this
  have f0:H fc=none:=by
   cases w:H fc with
   |none=>rfl
   |some o=>
    have:=(le.trans l).trans (Le.new (o:= .list (cs.map fun c=>PV.tup [B5 c, .loc (g c)])) hc) _ _ w
    rw[this] at hfc
    exact HJ hfc
  have fd:((H'.set c (.list (cs.map fun c=>PV.tup [B5 c, .loc (g c)]))).set fc (.dict (cs.map fun c=>(B5 c,PV.loc (g c))) n0)) fc=some (.dict (cs.map fun c=>(B5 c,PV.loc (g c))) n0):=AH.set_self ..
  generalize hH3:(H'.set _ _).set fc _=H3 at l23 l3 fd ⊢
  have lots0:Lots s 0 cs fc g (fun uu=>[]) H H3:=by
   refine⟨l3,f0,⟨_,fd⟩,fun b hb=>⟨?_,gne b hb,0,l23 _ _ (hg b hb).2⟩,inj,fun b hb=>⟨CN,Ak _,fun x=>⟨nofun,fun⟨m,h,uu⟩=>absurd h (Bj _)⟩⟩⟩
   cases w:H (g b) with
   |none=>rfl
   |some o=>have:=le _ _ w;rw[(hg b hb).1] at this;exact CC this
  have A3:=A.le l3
  have A:=A3
  k_one
  refine(Ho hx A (by exact Aa ‹_› (by decide))).mv ?_
  have sm0:small 0:=by unfold small;x_go
  have smn:small (s.nodes.length:Int):=by unfold small;exact UD ((Al [_] 0x40000000000000000840501028002) n16)
  z_run
  refine⟨smn,?_⟩
  z_run
  refine⟨sm0,smn,?_⟩
  rw[GD _]
  refine Ex (fun pre m H'=>(∃z,m=[(A8 "heap",some (Ft L)),(A8 "found",some (PV.loc fc)),(A8 "n",z)])∧∃ns,Lots s pre.length cs fc g ns H H') (all:=AL (Am s.nodes.length))
   (fun uu uu uu uu=>trivial) (fun pre x rest m H' ee hI K kn kb kr=>?_) (fun m H' hI=>?_) (pre:=[]) rfl ⟨⟨_,rfl⟩,_,lots0⟩
  ·refine Aw hI fun z0 zr=>?_;clear hI;refine AI z0 fun z z1=>?_;clear z0;subst z1;refine AI zr fun ns lots=>?_;clear zr
   have kn':∀m' H',(∃z,m'=[(A8 "heap",some (Ft L)),(A8 "found",some (PV.loc fc)),(A8 "n",z)])→(∃ns,Lots s (pre.length+1) cs fc g ns H H')→K .next m' H':=fun m' H' h1 h2=>(kn m' H' ⟨h1,by rw[AC,Bf];exact h2⟩).1
   obtain ⟨rfl,hjl⟩:x=B5 pre.length∧pre.length<s.nodes.length:=by
    have h:=congrArg (·[pre.length]?) ee
    simp only[Cu (Ak _),M0,C7] at h
    have hlt:pre.length<s.nodes.length:=by
     have:=congrArg Do ee
     rw[AS,AO,AC,AQ] at this
     exact(Al [_,_,_] 0x1405042505112) this
    unfold AL at h
    rw[Bc,Dy hlt] at h
    simp only[By,Bs] at h
    exact⟨h.symm,hlt⟩
   clear kn kb kr ee
   generalize pre.length=j at hjl kn' lots ⊢
   have A:=A0.le lots.le
   obtain ⟨nd,en⟩:∃nd,s.nodes[j]? =some nd:=⟨_,Ah hjl⟩
   have hk:=ok.kid j nd en
   have rr:=FL ok.up j j (Ak _)
   have rc:BG s.up j∈cs:=by rw[hcs];exact GG.mpr ⟨by exact(Al [_,_,_,_,_] 0x14050300041b1322435022112) nU hjl rr,rr.1⟩
   rcases lots.d with⟨nf,hfd⟩
   k_one
   refine(Hm hx A ok.up (by exact(Al [_,_,_] 0x140502405022112) nU hjl) (by exact(Al [_,_] 0x3e8380010121028102) n16 nU)).mv ?_
   z_run
   rw[hfd]
   z_run
   refine⟨Ei _,Jl cnd rl,_,Io rc,?_⟩
   k_one
   refine(aN hx A en (by exact Aa ‹_› (by decide))).mv ?_
   k_one
   refine(VD hx A en (by exact Aa ‹_› (by decide)) (by x_go)).mv ?_
   k_one
   refine⟨by rw[AS _];x_go,?_⟩
   refine CZ (fun m H6=>(∃z,m=[(A8 ".0",none),(A8 "kid",z),(A8 "heap",some (Ft L)),(A8 "found",some (PV.loc fc)),(A8 "n",some (B5 j))])∧Le H' H6) (Ta s.up) (by rw[AS _];x_go) ⟨⟨_,rfl⟩,Le.refl _⟩ (fun uu uu uu=>trivial)
    (fun x hx' acc m H' K ha hI k=>?_) fun m H' hI c2 hc2=>?_
   ·refine Aw hI fun z0 le=>?_;clear hI;refine AI z0 fun q z1=>?_;clear z0;subst z1
    refine AB (AZ.mp hx') fun i hi z2=>?_;subst z2
    have:=hk.2 i hi
    have A:=A.le le
    k_one
    refine(Hm hx A ok.up (by exact(Al [_,_,_,_] 0x140503405022435022112) nU hjl this) (by exact(Al [_,_] 0x3e8380010121028102) n16 nU)).mv ?_
    z_run
    exact⟨ha,k _ _ ⟨⟨_,rfl⟩,le⟩⟩
   ·rw[Mu _ _]
    z_run
    refine⟨by rw[AS _,Ag _];x_go,?_⟩
    z_run
    have l7:=hI.2.trans (Le.new (o:= .list (AL (nd.kids.map (BG s.up)))) hc2)
    have lots:=lots.go l7
    generalize hH7:AH.set H' c2 _=H7 at lots ⊢
    refine Aw (lots.l _ rc) fun gr0 zr=>?_;refine Aw zr fun grne zr=>?_;refine AI zr fun gn hgr=>?_;clear zr
    rw[hgr]
    z_run
    have ndr:=lots.nd _ rc
    have opn:∀x∈ns (BG s.up j),Gq x.op:=fun x hx'=>by
     refine CP ((ndr.2.2 x).mp hx') fun m hm uu z3=>?_;subst z3
     refine(?_:Gq (s.nodes.getD m Fa).op)
     refine ok.ops _ ?_
     rewrite[LF (Ah (show m<s.nodes.length by exact(Al [_,_,_] 0x14050240502142502) hjl hm))]
     exact CG _
    have ko:Cz (Ot (cn s.up nd)):=Ql (ok.ops nd (Cq en))
    refine⟨ko,W1 ndr.1 opn (by x_go),?_⟩
    rewrite[show put (PV.tup [PV.str nd.op,PV.tup (AL (nd.kids.map (BG s.up)))]) (.bool true) (Kb (ns (BG s.up j)))=_ from Uh (nd:=cn s.up nd)]
    z_run
    refine kn' _ _ ⟨_,rfl⟩ ⟨fun b=>if b=BG s.up j then(if cn s.up nd∈ns (BG s.up j) then ns (BG s.up j) else ns (BG s.up j)++[cn s.up nd]) else ns b,⟨fun a o e=>?_,lots.fn,?_,fun b hb=>⟨(lots.l b hb).1,(lots.l b hb).2.1,?_⟩,lots.inj,fun b hb=>?_⟩⟩
    ·rw[AH.set_ne (fun z=>by rw[z,gr0] at e;exact CC e)]
     exact lots.le _ _ e
    ·rw[AH.set_ne (Ck grne)]
     exact lots.d
    ·by_cases q:b=BG s.up j
     ·rw[q,if_pos rfl]
      exact⟨_,AH.set_self ..⟩
     ·rw[if_neg q];rewrite[AH.set_ne (fun z=>q (lots.inj b hb _ rc z))]
      exact(lots.l b hb).2.2
    ·have e2:s.nodes.getD j Fa=nd:=LF en
     by_cases q:b=BG s.up j
     ·subst q
      rw[if_pos rfl]
      have iff:∀x,(x∈ns (BG s.up j)∨x=cn s.up nd)↔∃m,m<j+1∧BG s.up m=BG s.up j∧x=cn s.up (s.nodes.getD m Fa):=fun x=>by
       rewrite[ndr.2.2]
       constructor
       ·rintro (⟨m,h1,h2,h3⟩|rfl)
        ·exact⟨m,by exact(Al [_,_] 0x4154050140502) h1,h2,h3⟩
        ·exact⟨j,by exact(Al [_] 0x4054050),rfl,by rw[e2];rfl⟩
       ·intro z20;refine CP z20 fun m h1 h2 h3=>?_;clear z20
        by_cases w:m=j
        ·subst w;rw[e2] at h3;exact .inr h3
        ·exact .inl ⟨m,by exact(Al [_,_] 0x1405051012241540502) h1 w,h2,h3⟩
      by_cases mem:cn s.up nd∈ns (BG s.up j)
      ·rw[if_pos mem]
       exact⟨ndr.1,by x_go,fun x=>by rewrite[←iff];exact⟨.inl,fun h=>h.elim id fun e=>e▸mem⟩⟩
      ·rw[if_neg mem]
       exact⟨BJ.mpr ⟨ndr.1,by simp,fun a ha b hb e=>mem (by rw[Ao] at hb;rw[←hb, ←e];exact ha)⟩,by rw[AC,Bf];x_go,fun x=>by rewrite[←iff,B6,Ao];rfl⟩
     ·rw[if_neg q]
      have h:=lots.nd b hb
      refine⟨h.1,by x_go,fun x=>?_⟩
      rewrite[h.2.2]
      constructor
      ·intro z20;refine CP z20 fun m h1 h2 h3=>?_;clear z20;exact⟨m,by exact(Al [_,_] 0x4154050140502) h1,h2,h3⟩
      ·intro z20;refine CP z20 fun m h1 h2 h3=>?_;clear z20
       have:m≠j:=fun e=>q (by rw[←h2,e];rfl)
       exact⟨m,by exact(Al [_,_] 0x1405051012241540502) h1 this,h2,h3⟩
  ·refine Aw hI fun z0 zr=>?_;clear hI;refine AI z0 fun z z1=>?_;clear z0;subst z1;refine AI zr fun ns lots=>?_;clear zr
   rw[AS,AO] at lots
   z_run
   exact bw fc g ns rfl lots
end
end
section
open Classical
theorem W4 {t t':Nat→Nat→Nat}{ks:List Nat}{m:Nat}(h:∀i≤m,∀k∈ks,t i k=t' i k):Wt t ks m=Wt t' ks m:=by
 match ks,h with
 |[],_=>rfl
 |[k],h=>exact h m (Ak _) k (by exact Ab)
 |k1::k2::_,h=>
  change ((Am (m-1)).map fun i=>_).sum=((Am (m-1)).map fun i=>_).sum
  refine congrArg _ (AN fun i hi=>?_)
  have:=BA.mp hi
  rewrite[h (i+1) (by exact(Al [_,_] 0x1405041640502) this) k1 (by exact Ab),h (m-(i+1)) (by exact(Al [_,_] 0x415060)) k2 (by simp)];rfl
theorem Ou {l:List Nat}{i j v:Nat}(h:i<l.length):(l.set i v).getD j 0=if j=i then v else l.getD j 0:=by
 by_cases q:j=i
 ·subst q;rw[if_pos rfl,FM h];rfl
 ·rw[if_neg q];rewrite[FV (fun e=>q e.symm)];rfl
theorem W5 (n i:Nat):(Cw n 0).getD i 0=0:=by
 rw[Av,List.getElem?_replicate]
 split<;>rfl
def gK (s:HS)(m:Nat):PV→PV
 | .tup [_, .tup r]=>B5 (Wt (T s) (r.map fun p=>match p with| .int k=>k.toNat|_=>0) m)
 |p=>p
theorem Tl (s:HS)(m:Nat)(nd:Node):gK s m (Ot nd)=B5 (Wt (T s) nd.kids m):=by
 refine(?_:B5 (Wt (T s) ((AL nd.kids).map _) m)=_)
 congr 3
 unfold AL
 rw[AW]
 exact(AN fun a uu=>B7 a).trans (JP _)
theorem Z2 (s:HS)(m:Nat)(nds:List Node):(nds.map Ot).map (gK s m)=AL (nds.map fun nd=>Wt (T s) nd.kids m):=by
 unfold AL
 rw[AW,AW]
 exact AN fun nd uu=>Tl s m nd
section
variable {X:Ctx}{L:Lay}{s:HS}{mc:Nat}{H:AH}{d:Nat}
theorem W6 (hx:XOk X)(A:At L s H)(ok:Ok s mc):
  Bz X (d+5) (.raw (.ref 512)) [Ft L] H fun p H'=>∃tb tc,p= .loc tb∧Le H H'∧H tb=none∧(∀c∈DR s.up,H (tc c)=none)∧Tbl (DR s.up) tb tc (fun c=>(Am 8).map fun i=>T s i c) H':=by
 have n16:=ok.n16
 have nU:=ok.nU
 refine CU hx.K ["heap"] (by z_go) (by z_go) (by decide+kernel) (by x_run) ?_
 have A0:=A
 z_run
 refine(W2 hx A ok).mono fun p H1 hq1=>?_
 refine M7 hq1 fun fc g ns e1 lots=>?_;clear hq1
 subst e1
 z_run
 rcases lots.d with⟨nf,hfd⟩
 rw[hfd]
 z_run
 have rl:(DR s.up).length≤16:=Aa (GF (Fb _) fun m h=>(GG.mp h).1) (by exact(Al [_,_] 0x10280010121028102) n16 nU)
 obtain ⟨cs,hcs⟩:∃cs,cs=DR s.up:=⟨_,rfl⟩
 have cnd:=Fb s.up
 rw[←hcs] at rl lots hfd cnd ⊢
 have nn:(AL cs).Nodup:=Cg.mpr (cnd.imp fun h e=>h (EM e))
 rewrite[show DH (fun x:PV×PV=>x.fst) (DH (fun c=>(B5 c,PV.loc (g c))) cs)=AL cs by rw[AW];rfl]
 refine⟨by rw[Ag _];exact Aa ‹_› (by decide),?_⟩
 refine JO (fun pre acc m H'=>(∃z,m=[(A8 ".0",none),(A8 "c",z),(A8 "heap",some (Ft L)),(A8 "lots",some (PV.loc fc)),(A8 "c",none),(A8 "table",none),(A8 "much",none)])∧
   ∃(cs1:List Nat) (t:Nat→Addr),pre=AL cs1∧acc=cs1.map (fun c=>PV.tup [B5 c, .loc (t c)])∧Le H1 H'∧(∀c∈cs1,H1 (t c)=none∧H' (t c)=some (.list (AL (Cw 8 0))))∧∀c∈cs1,∀c'∈cs1,t c=t c'→c=c') (all:=AL cs)
  (fun uu uu uu uu hI=>by refine Aw hI fun uu zr=>?_;clear hI;refine IW zr fun cs g uu uu l uu=>?_;clear zr;exact l _ _ hfd) (fun pre x rest acc m H' ee hI K k=>?_) (fun acc m H' hI c hc=>?_) (pre:=[]) rfl ⟨⟨_,rfl⟩,[],fun uu=>0,rfl,rfl,Le.refl _,nofun,nofun⟩
 ·refine Aw hI fun z0 zr=>?_;clear hI;refine AI z0 fun z z1=>?_;clear z0;subst z1;refine L8 zr fun cs1 t z2 z3 l hg inj=>?_;clear zr;subst z2;subst z3
  obtain ⟨j,hj,rfl⟩:∃j,j∈cs∧B5 j=x:=AZ.mp (show x∈AL cs by rw[ee];simp)
  have hn:j∉cs1:=fun h=>by
   rw[ee] at nn
   exact(BJ.mp nn).2.2 (B5 j) (Bk h) (B5 j) (Ab ..) rfl
  have cl:cs1.length≤16:=by
   have:=congrArg Do ee
   rw[AC,AS,AS] at this
   exact(Al [_,_,_] 0x1028002051121028102) rl this
  z_run
  intro c0 hc0
  z_run
  refine⟨_,AH.set_self ..,(by decide:1≤1000),by decide,by decide,fun c hc=>?_⟩
  have l1:=Le.new (o:= .list [PV.int 0]) hc0
  generalize H'.set c0 (.list [PV.int 0])=H2 at l1 hc ⊢
  z_run
  refine⟨by rw[Ag _];exact Aa ‹_› (by decide),k _ _ _ ⟨⟨_,rfl⟩,cs1++[j],fun i=>if i=j then c else t i,?_,?_,(l.trans l1).trans (Le.new hc),?_,?_⟩⟩
  ·rw[FF _ _];rfl
  ·rw[Bi,Cn]
   dsimp only
   rw[if_pos rfl]
   congr 1
   exact AN fun i hi=>by rewrite[if_neg fun e:i=j=>hn (e▸hi)];rfl
  ·intro i hi
   dsimp only
   by_cases q:i=j
   ·rw[if_pos q]
    refine⟨?_,AH.set_self ..⟩
    cases w:H1 c with
    |none=>rfl
    |some o=>rw[(l.trans l1) _ _ w] at hc;exact HJ hc
   ·rw[if_neg q]
    have hi':i∈cs1:=(B6.mp hi).resolve_right (by simpa using q)
    exact⟨(hg i hi').1,Le.new hc _ _ (l1 _ _ (hg i hi').2)⟩
  ·intro i hi i' hi' e
   dsimp only at e
   have h1:∀i,i∈cs1++[j]→i≠j→i∈cs1:=fun i h q=>(B6.mp h).resolve_right (by simpa using q)
   have h2:∀i∈cs1,t i≠c:=fun i h e=>by
    have:=l1 _ _ (hg i h).2
    rw[e,hc] at this;exact CC this
   by_cases q:i=j
   ·by_cases q':i'=j
    ·rw[q,q'];rfl
    ·rw[if_pos q,if_neg q'] at e
     exact absurd e.symm (h2 i' (h1 i' hi' q'))
   ·by_cases q':i'=j
    ·rw[if_neg q,if_pos q'] at e
     exact absurd e (h2 i (h1 i hi q))
    ·rw[if_neg q,if_neg q'] at e
     exact inj i (h1 i hi q) i' (h1 i' hi' q') e
 ·refine Aw hI fun z0 zr=>?_;clear hI;refine AI z0 fun z z1=>?_;clear z0;subst z1;refine L8 zr fun cs1 t ecs z3 l hg inj=>?_;clear zr;subst z3
  have:=Jk ecs
  subst this
  have ip:∀l:List Nat,Ed (l.map fun c=>PV.tup [B5 c, .loc (t c)])=some (l.map fun c=>(B5 c, .loc (t c))):=by
   intro l
   induction l with
   |nil=>rfl
   |cons a l ih=>refine(?_:(Ed (l.map _)).map _=_);rw[ih];rfl
  have pa:∀(l l0:List Nat),(l0++l).Nodup→E1 (l.map fun c=>(B5 c,PV.loc (t c))) (l0.map fun c=>(B5 c,PV.loc (t c)))=(l0++l).map fun c=>(B5 c,PV.loc (t c)):=by
   intro l
   induction l with
   |nil=>intro l0 _;rw[Di _];rfl
   |cons a l ih=>
    intro l0 h
    refine(?_:E1 _ (put _ _ _)=_)
    rewrite[LH (fun q hq e=>by
     refine AB (AZ.mp hq) fun b hb z2=>?_;subst z2
     have:=EM e
     subst this
     exact(BJ.mp h).2.2 b hb b (Ab ..) rfl)]
    have:=ih (l0++[a]) (by rw[E0 _ _ _];exact h)
    rw[Bi,Cn] at this
    rw[this,E0 _ _ _]
    rfl
  have pk:(cs.map fun c=>(B5 c,PV.loc (t c))).map (·.1)=AL cs:=by rw[AW];rfl
  z_run
  refine⟨_,ip cs,by rw[pk];exact(Ce cs).1,by rw[pk,(Ce cs).2];decide,fun q hq=>by refine IX hq fun b uu=>?_;rfl,by rw[Ag _];exact Aa ‹_› (by decide),fun tb n0 htb=>?_⟩
  have:=pa cs [] (by simpa using cnd)
  rw[M1,Nc] at this
  rw[this]
  have l23:=(Le.new (o:= .list (cs.map fun c=>PV.tup [B5 c, .loc (t c)])) hc).trans (Le.new (o:= .dict (cs.map fun c=>(B5 c,PV.loc (t c))) n0) htb)
  have l3:=l.trans l23
  have tne:∀b∈cs,t b≠tb:=fun b hb e=>by
   have:=Le.new (o:= .list (cs.map fun c=>PV.tup [B5 c, .loc (t c)])) hc _ _ (hg b hb).2
   rw[e,htb] at this
   exact CC this
  have f0:H1 tb=none:=by
   cases w:H1 tb with
   |none=>rfl
   |some o=>
    have:=l.trans (Le.new (o:= .list (cs.map fun c=>PV.tup [B5 c, .loc (t c)])) hc) _ _ w
    rw[this] at htb
    exact HJ htb
  have fd:((H'.set c (.list (cs.map fun c=>PV.tup [B5 c, .loc (t c)]))).set tb (.dict (cs.map fun c=>(B5 c,PV.loc (t c))) n0)) tb=some (.dict (cs.map fun c=>(B5 c,PV.loc (t c))) n0):=AH.set_self ..
  generalize hH3:(H'.set _ _).set tb _=H3 at l23 l3 fd ⊢
  have tbl0:Tbl cs tb t (fun uu=>Cw 8 0) H3:=by
   refine⟨⟨_,fd⟩,fun b hb=>l23 _ _ (hg b hb).2,fun uu uu=>by exact rfl,fun uu uu i=>?_,cnd,rl⟩
   have:(Cw 8 0).getD i 0=0:=W5 8 i
   rw[this]
   exact I0 (k:=1) (by decide) (by decide)
  have h0n:∀{b:Addr},H1 b=none→H b=none:=fun{b} h=>by
   cases w:H b with
   |none=>rfl
   |some o=>rw[lots.le _ _ w] at h;exact HJ h
  have sm1:small 1:=by unfold small;x_go
  have sm8:small 8:=by unfold small;x_go
  z_run
  refine⟨sm1,sm8,?_⟩
  z_run
  refine⟨sm1,sm8,?_⟩
  refine Ex (fun pre m H'=>(∃z1 z2,m=[(A8 "heap",some (Ft L)),(A8 "lots",some (PV.loc fc)),(A8 "c",z1),(A8 "table",some (PV.loc tb)),(A8 "much",z2)])∧Le H1 H'∧∃tv,Tbl cs tb t tv H'∧∀c∈cs,∀i≤pre.length,(tv c).getD i 0=T s i c)
   (all:=(Am 7).map fun i=>PV.int (1+BQ i)) (fun uu uu uu uu=>trivial) (fun pre x rest m H' ee hI K kn kb kr=>?_) (fun m H' hI=>?_) (pre:=[]) rfl ⟨⟨_,_,rfl⟩,l3,_,tbl0,fun c hc i hi=>?_⟩
  ·refine Aw hI fun z0 zr=>?_;clear hI;refine IV z0 fun z1 z2 z2=>?_;clear z0;subst z2;revert zr;refine fun zq=>Aw zq fun l4 zr=>?_;clear zq;refine AB zr fun tv tbl hT=>?_;clear zr
   have hxi:x=B5 (pre.length+1)∧pre.length<7:=by
    have h:=congrArg (·[pre.length]?) ee
    simp only[Cu (Ak _),M0,C7,Bc] at h
    by_cases hlt:pre.length<7
    ·rw[Dy hlt] at h
     simp only[By,Bs] at h
     refine⟨h.symm.trans ?_,hlt⟩
     refine(?_:PV.int (1+(pre.length:Int))=PV.int ((pre.length+1:Nat):Int))
     congr 1;x_go
    ·rw[Bg (by rw[AO];exact(Al [_] 0x71805718405022) hlt)] at h
     exact CC h
   refine Aw hxi fun z0 hpl=>?_;clear hxi;subst z0
   have kn':∀m' H',(∃z1 z2,m'=[(A8 "heap",some (Ft L)),(A8 "lots",some (PV.loc fc)),(A8 "c",z1),(A8 "table",some (PV.loc tb)),(A8 "much",z2)])→Le H1 H'→(∃tv,Tbl cs tb t tv H'∧∀c∈cs,∀i≤pre.length+1,(tv c).getD i 0=T s i c)→K .next m' H':=fun m' H' h1 h2 h3=>(kn m' H' ⟨h1,h2,by rw[AC,Bf];exact h3⟩).1
   clear kn kb kr ee
   generalize pre.length=much at hpl kn' hT ⊢
   z_run
   rw[l4 _ _ hfd]
   z_run
   rewrite[show DH (fun x:PV×PV=>x.fst) (DH (fun c=>(B5 c,PV.loc (g c))) cs)=AL cs by rw[AW];rfl]
   refine⟨by rw[Ag _];exact Aa ‹_› (by decide),?_⟩
   refine Ex (fun pre m H'=>(∃z1,m=[(A8 "heap",some (Ft L)),(A8 "lots",some (PV.loc fc)),(A8 "c",z1),(A8 "table",some (PV.loc tb)),(A8 "much",some (B5 (much+1)))])∧Le H1 H'∧∃tv,Tbl cs tb t tv H'∧(∀c∈cs,∀i≤much,(tv c).getD i 0=T s i c)∧∀c∈cs,B5 c∈pre→(tv c).getD (much+1) 0=T s (much+1) c)
    (all:=AL cs) (fun uu uu uu hI=>hI.2.1 _ _ hfd) (fun pre x rest m H' ee hI K kn kb kr=>?_) (fun m H' hI=>?_) (pre:=[]) rfl ⟨⟨_,rfl⟩,l4,tv,tbl,hT,nofun⟩
   ·refine Aw hI fun z0 zr=>?_;clear hI;refine AI z0 fun z1 z1=>?_;clear z0;subst z1;revert zr;refine fun zq=>Aw zq fun l4 zr=>?_;clear zq;refine CP zr fun tv tbl hT hD=>?_;clear zr
    obtain ⟨b,hb,rfl⟩:∃j,j∈cs∧B5 j=x:=AZ.mp (show x∈AL cs by rw[ee];simp)
    refine Aw (lots.l b hb) fun gb0 zr=>?_;refine Aw zr fun gbne zr=>?_;refine AI zr fun gbn hgb=>?_;clear zr
    have nsb:=lots.nd b hb
    have nsc:∀nd∈ns b,nd∈cls s b:=fun nd h=>LJ.mpr ((nsb.2.2 nd).mp h)
    have nsp:(ns b).Perm (cls s b):=MU nsb.1 (PG s b) fun x=>by rewrite[nsb.2.2,LJ];rfl
    z_run
    rw[l4 _ _ hfd]
    z_run
    refine⟨Ei b,Jl cnd rl,_,Io hb,?_⟩
    z_run
    rw[l4 _ _ hgb]
    z_run
    rewrite[show DH (fun x:PV×PV=>x.fst) (Kb (ns b))=(ns b).map Ot by unfold Kb;rw[AW];rfl]
    refine⟨by unfold Kb;rw[Ag _];x_go,?_⟩
    refine CZ (fun m H2=>(∃z1 z2,m=[(A8 ".0",none),(A8 "op",z1),(A8 "kids",z2),(A8 "heap",some (Ft L)),(A8 "lots",some (PV.loc fc)),(A8 "c",some (B5 b)),(A8 "table",some (PV.loc tb)),(A8 "much",some (B5 (much+1)))])∧Le H' H2) (gK s much)
     (by rw[Ag _];x_go) ⟨⟨_,_,rfl⟩,Le.refl _⟩ (fun uu uu hI=>hI.2 _ _ (l4 _ _ hgb)) (fun x hx' acc m H2 K ha hI k=>?_) fun m H2 hI c2 hc2=>?_
    ·refine Aw hI fun z0 le=>?_;clear hI;refine IV z0 fun z1 z2 z2=>?_;clear z0;subst z2
     refine AB (AZ.mp hx') fun nd hnd z2=>?_;subst z2
     refine DF (VX ok (nsc nd hnd)) fun uu kl ka=>?_
     have kc:∀k∈nd.kids,k∈cs:=fun k h=>by
      have:=(ok.ab k).mp (ka k h)
      rw[hcs]
      exact GG.mpr ⟨by exact(Al [_,_,_,_] 0x1405003124050322112) nU this,this.2⟩
     rw[show Ot nd=PV.tup [.str nd.op, .tup (AL nd.kids)] from rfl]
     z_run
     rw[show((much+1:Nat):Int) -1=(much:Int) by x_go]
     refine(Z1 hx (tbl.le le) (show much≤7 by exact AU ‹_›) kl kc).m1 fun H3 l5=>?_
     z_run
     refine⟨ha,?_⟩
     refine cast (congrArg (fun z=>K (acc++[z]) _ _) ?_) (k _ _ ⟨⟨_,_,rfl⟩,le.trans l5⟩)
     rw[Tl _ _ _]
     exact congrArg B5 (W4 fun i hi k hk=>(hT k (kc k hk) i hi).symm)
    ·refine Aw hI fun uu le=>?_;clear hI
     rw[Z2 _ _ _]
     z_run
     have es:(((ns b).map fun nd=>Wt (T s) nd.kids much).map (fun n:Nat=>(n:Int))).sum=((T s (much+1) b:Nat):Int):=by
      rw[Jj _,Rf (nsp.map _),Sj _ _ _];rfl
     refine⟨_,Ji _,by rw[Ag _,Ag _];x_go,?_⟩
     rw[es]
     have l6:=le.trans (Le.new (o:= .list (AL ((ns b).map fun nd=>Wt (T s) nd.kids much))) hc2)
     generalize H2.set c2 _=H3 at l6 ⊢
     have tbl3:=tbl.le l6
     rcases tbl3.d with⟨n3,htb3⟩
     z_run
     rw[htb3]
     z_run
     refine⟨Ei b,Jl cnd rl,_,Io hb,?_⟩
     z_run
     rw[tbl3.l b hb]
     z_run
     have lb:=tbl3.len b hb
     refine⟨Mine.Internal.nn _,by x_go,by rw[AS _];refine(?_:much+1<_);exact(Al [_,_] 0x144055081811271840502) hpl lb,by rw[AS _];exact(Al [_] 0x186a05800818012) lb,?_⟩
     rw[B7 _,show(AL (tv b)).set (much+1) (PV.int (T s (much+1) b:Nat))=AL ((tv b).set (much+1) (T s (much+1) b)) from Ra ..]
     z_run
     refine(kn _ _ ⟨⟨_,rfl⟩,fun a o e=>?_,fun c=>if c=b then(tv b).set (much+1) (T s (much+1) b) else tv c,⟨?_,fun c hc'=>?_,fun c hc'=>?_,fun c hc' i=>?_,cnd,rl⟩,fun c hc' i hi=>?_,fun c hc' hi=>?_⟩).1
     ·rw[AH.set_ne (fun z=>by rw[z,(hg b hb).1] at e;exact CC e)]
      exact(l4.trans l6) _ _ e
     ·rw[AH.set_ne (Ck (tne b hb))]
      exact⟨_,htb3⟩
     ·by_cases q:c=b
      ·rw[q,if_pos rfl,AH.set_self _ _ _];rfl
      ·rw[if_neg q];rewrite[AH.set_ne (fun z=>q (inj c hc' b hb z))]
       exact tbl3.l c hc'
     ·by_cases q:c=b
      ·rw[if_pos q,ER];exact lb
      ·rw[if_neg q];exact tbl3.len c hc'
     ·by_cases q:c=b
      ·rw[if_pos q];rewrite[Ou (by exact(Al [_,_] 0x144055081811271840502) hpl lb)]
       split
       ·exact Qk n16 (by exact Aa ‹_› (by decide)) b
       ·exact tbl3.rm b hb i
      ·rw[if_neg q];exact tbl3.rm c hc' i
     ·dsimp only
      by_cases q:c=b
      ·rw[if_pos q];rewrite[Ou (by exact(Al [_,_] 0x144055081811271840502) hpl lb),if_neg (by exact(Al [_,_] 0x54150121002) hi)];rw[q]
       exact hT b hb i hi
      ·rw[if_neg q];exact hT c hc' i hi
     ·dsimp only
      by_cases q:c=b
      ·rw[if_pos q];rewrite[Ou (by exact(Al [_,_] 0x144055081811271840502) hpl lb)];rw[if_pos rfl,q];rfl
      ·rw[if_neg q]
       refine hD c hc' ((B6.mp hi).resolve_right fun h=>q ?_)
       rw[Ao] at h
       exact EM h
   ·refine Aw hI fun z0 zr=>?_;clear hI;refine AI z0 fun z1 z1=>?_;clear z0;subst z1;revert zr;refine fun zq=>Aw zq fun l4 zr=>?_;clear zq;refine CP zr fun tv tbl hT hD=>?_;clear zr
    z_run
    refine kn' _ _ ⟨_,_,rfl⟩ l4 ⟨tv,tbl,fun c hc i hi=>?_⟩
    by_cases q:i=much+1
    ·rw[q];exact hD c hc (Bk hc)
    ·exact hT c hc i (by exact(Al [_,_] 0x10054150122415002) hi q)
  ·refine Aw hI fun z0 zr=>?_;clear hI;refine IV z0 fun z1 z2 z2=>?_;clear z0;subst z2;revert zr;refine fun zq=>Aw zq fun l4 zr=>?_;clear zq;refine AB zr fun tv tbl hT=>?_;clear zr
   rw[Ag,AO] at hT
   z_run
   refine Tt tb t rfl (lots.le.trans l4) (h0n f0) (fun c hc=>h0n (hg c hc).1) ⟨tbl.d,fun c hc=>?_,fun c hc=>by exact rfl,fun c hc i=>?_,cnd,rl⟩
   ·have:tv c=(Am 8).map fun i=>T s i c:=by
     refine MG (by rw[tbl.len c hc];exact rfl) fun i h1 h2=>?_
     have h:=hT c hc i (by rw[tbl.len c hc] at h1;exact(Al [_] 0x7180081840502) h1)
     rw[List.getElem_map _,List.getElem_range _, ←h]
     simp[Cd,h1]
    rw[←this]
    exact tbl.l c hc
   ·have:((Am 8).map fun i=>T s i c).getD i 0=if i<8 then T s i c else 0:=by
     by_cases h:i<8
     ·rw[if_pos h];simp[Cd,h]
     ·rw[if_neg h];simp[Cd,h]
    rw[this]
    split
    ·exact Qk n16 (by exact AU ‹_›) c
    ·exact I0 (k:=1) (by decide) (by decide)
  ·have:i=0:=by simpa using hi
   subst this
   rfl
end
end
section
open Classical
def aS (s:HS)(c:Nat):PV→PV
 | .int k=>B5 (T s k.toNat c)
 |p=>p
section
variable {X:Ctx}{L:Lay}{s:HS}{mc:Nat}{mk:PV}{a dd kc:Addr}{H:AH}{d:Nat}
theorem W7 (hx:XOk X)(ok:Ok s mc)(hmc:mc≤1000)(C:CPre L s mk dd kc H)(hkc:H kc≠none):
  Bz X (d+32) (.raw (.ref 517)) [Ft L, .inst 273 a dd] H fun p H'=>p= .bool true∧∃mk' kc',(mk'=mk∨mk'=Dd s)∧CPre L s mk' dd kc' H'∧Ren dd kc H H' kc'∧H' kc'≠none:=by
 have n16:=ok.n16
 have nU:=ok.nU
 refine CU hx.K ["heap","counts"] (by z_go) (by z_go) (by decide+kernel) (by x_run) ?_
 have A:=C.at_
 z_run
 refine(W6 hx A ok).mono fun p H1 hq1=>?_
 refine L8 hq1 fun tb tc e1 le tb0 tc0 tbl=>?_;clear hq1
 subst e1
 have C1:=C.le le
 have A:=C1.at_
 k_one
 refine(Ho hx A (by exact Aa ‹_› (by decide))).mv ?_
 have sm0:small 0:=by unfold small;x_go
 have smn:small (s.nodes.length:Int):=by unfold small;x_go
 have sm8:small 8:=by unfold small;x_go
 z_run
 refine⟨smn,?_⟩
 z_run
 rw[GD _]
 have nedd:∀b,H b=none→b≠dd:=fun b h e=>by rw[e,C.c] at h;exact HJ h
 have nekc:∀b,H b=none→b≠kc:=fun b h e=>hkc (by rw[←e];exact h)
 refine⟨sm0,smn,?_⟩
 refine Ex (fun pre m H'=>(∃z1 z2,m=[(A8 "heap",some (Ft L)),(A8 "counts",some (PV.inst 273 a dd)),(A8 "table",some (PV.loc tb)),(A8 "n",z1),(A8 "due",z2)])∧∃mk' kc',(mk'=mk∨mk'=Dd s)∧CPre L s mk' dd kc' H'∧Ren dd kc H1 H' kc'∧H' kc'≠none) (all:=AL (Am s.nodes.length))
  (fun uu uu uu uu=>trivial) (fun pre x rest m H' ee hI K kn kb kr=>?_) (fun m H' hI=>?_) (pre:=[]) rfl ⟨⟨_,_,rfl⟩,mk,kc, .inl rfl,C1, .refl ..,fun e=>hkc (by cases w:H kc with|none=>rfl|some o=>rw[le _ _ w] at e;exact HJ e)⟩
 ·refine Aw hI fun z0 zr=>?_;clear hI;refine IV z0 fun z1 z2 z2=>?_;clear z0;subst z2;refine IW zr fun mk' kc' hmk C2 r hk2=>?_;clear zr
  obtain ⟨j,hj,rfl⟩:∃j,j<s.nodes.length∧B5 j=x:=by
   refine AB (AZ.mp (show x∈AL (Am s.nodes.length) by rw[ee];simp)) fun j h e=>?_
   exact⟨j,BA.mp h,e⟩
  have A:=C2.at_
  have rr:=FL ok.up j j (Ak _)
  have rc:BG s.up j∈DR s.up:=GG.mpr ⟨by exact(Al [_,_,_,_,_] 0x14050300041b1322435022112) nU hj rr,rr.1⟩
  rcases tbl.d with⟨nt,htb⟩
  have htb2:=r.kp _ _ htb (nedd tb tb0) (nekc tb tb0)
  have htc2:=r.kp _ _ (tbl.l _ rc) (nedd _ (tc0 _ rc)) (nekc _ (tc0 _ rc))
  k_one
  refine(Hm hx A ok.up (by exact(Al [_,_,_] 0x140502405022112) nU hj) (by exact(Al [_,_] 0x3e8380010121028102) n16 nU)).mv ?_
  z_run
  rw[htb2]
  z_run
  refine⟨Ei _,Jl tbl.nd tbl.cl,_,Io rc,?_⟩
  z_run
  refine⟨sm8,?_⟩
  z_run
  rewrite[show(DH (fun i=>PV.int (0+BQ i)) (Am ((8:Int) -0).toNat))=AL (Am 8) from GD 8]
  refine⟨sm0,sm8,?_⟩
  refine CZ (fun m H'=>(∃z,m=[(A8 ".0",none),(A8 "much",z),(A8 "heap",some (Ft L)),(A8 "counts",some (PV.inst 273 a dd)),(A8 "table",some (PV.loc tb)),(A8 "n",some (B5 j)),(A8 "due",some (PV.loc (tc (BG s.up j))))])∧∃mk' kc',(mk'=mk∨mk'=Dd s)∧CPre L s mk' dd kc' H'∧Ren dd kc H1 H' kc'∧H' kc'≠none)
   (aS s (BG s.up j))
   (by rw[AS _,AO];decide) ⟨⟨_,rfl⟩,mk',kc',hmk,C2,r,hk2⟩ (fun uu uu uu=>trivial) (fun x hx' acc m H' K ha hI k'=>?_) fun m H' hI c2 hc2=>?_
  ·refine Aw hI fun z0 zr=>?_;clear hI;refine AI z0 fun z z1=>?_;clear z0;subst z1;refine IW zr fun mk' kc' hmk C' r hk2=>?_;clear zr
   refine AB (AZ.mp hx') fun i hi z2=>?_;subst z2
   have:=BA.mp hi
   z_run
   rw[C'.c]
   z_run
   refine(VZ hx ok hmc C' hj (show i≤7 by exact(Al [_] 0x7180081840502) this)).m1 fun H2 zr=>?_
   refine AB zr fun kc2 C2 r2=>?_;clear zr
   z_run
   exact⟨ha,k' _ _ ⟨⟨_,rfl⟩,_,_, .inr rfl,C2.pre,r.trans C'.c r2,fun e=>by rcases C2.k with⟨es,n,h,_⟩;rw[h] at e;exact HJ e⟩⟩
  ·refine Aw hI fun z0 zr=>?_;clear hI;refine AI z0 fun z z1=>?_;clear z0;subst z1;refine IW zr fun mk' kc' hmk C' r hk2=>?_;clear zr
   have eo:(AL (Am 8)).map (aS s (BG s.up j))=AL ((Am 8).map fun i=>T s i (BG s.up j)):=by
    unfold AL
    rw[AW,AW]
    rfl
   rw[eo]
   have l3:=Le.new (o:= .list (AL ((Am 8).map fun i=>T s i (BG s.up j)))) hc2
   have htc3:=l3 _ _ (r.kp _ _ (tbl.l _ rc) (nedd _ (tc0 _ rc)) (nekc _ (tc0 _ rc)))
   have C3:=C'.le l3
   have r3:=r.trans C'.c (Ren.le l3)
   have hk3:(H'.set c2 (.list (AL ((Am 8).map fun i=>T s i (BG s.up j))))) kc'≠none:=fun e=>hk2 (by cases w:H' kc' with|none=>rfl|some o=>rw[l3 _ _ w] at e;exact HJ e)
   have hs4:(H'.set c2 (.list (AL ((Am 8).map fun i=>T s i (BG s.up j))))) c2=some (.list (AL ((Am 8).map fun i=>T s i (BG s.up j)))):=AH.set_self ..
   generalize H'.set c2 (.list (AL ((Am 8).map fun i=>T s i (BG s.up j))))=H4 at l3 htc3 C3 r3 hk3 hs4 ⊢
   z_run
   have dn:=Ce ((Am 8).map fun i=>T s i (BG s.up j))
   have d0:B_ (AL ((Am 8).map fun i=>T s i (BG s.up j)))≤100:=by rw[dn.2];decide
   have hc4:H4 c2=some (.list (AL ((Am 8).map fun i=>T s i (BG s.up j)))):=hs4
   refine Ic _ _ hc4 htc3 dn.1 dn.1 d0 d0 ?_
   rw[decide_eq_true rfl]
   z_run
   rw[C3.c]
   z_run
   refine(Z0 hx ok hmc C3 hj (show 7≤7 from Ak _)).m1 fun H5 zr=>?_
   refine IW zr fun mk5 kc5 hmk5 C5 r5 hk5=>?_;clear zr
   have r6:=r3.trans C3.c r5
   z_run
   rw[r6.kp _ _ (tbl.l _ rc) (nedd _ (tc0 _ rc)) (nekc _ (tc0 _ rc))]
   z_run
   refine⟨_,Ji _,by rw[Ag _,Ag _,AO];decide,?_⟩
   rw[Jj _]
   z_run
   have es:((Am 7).map fun i=>T s (i+1) (BG s.up j)).sum=((Am 8).map fun i=>T s i (BG s.up j)).sum:=by
    simp only[show Am 8=[0,1,2,3,4,5,6,7] from rfl,show Am 7=[0,1,2,3,4,5,6] from rfl,B9,M1,BX,Qr,YY,Nat.reduceAdd]
    exact(Al [_,_,_,_,_,_,_] 0x761b551b541b53525150575761b551b541b5352515051)
   rw[YP es]
   z_run
   exact(kn _ _ ⟨⟨_,_,rfl⟩,mk5,kc5,hmk5.elim (fun e=>e▸hmk) .inr,C5,r6,hk5 hk3⟩).1
 ·refine Aw hI fun z0 zr=>?_;clear hI;refine IV z0 fun z1 z2 z2=>?_;clear z0;subst z2;refine IW zr fun mk' kc' hmk C2 r hk2=>?_;clear zr
  z_run
  exact⟨rfl,mk',kc',hmk,C2,(Ren.le le).trans C1.c r,hk2⟩
end
end
section
open Classical
structure Sit (L:Lay)(s:HS)(mc N:Nat)(bx rl dd kc:Addr)(mk:PV)(H:AH):Prop where
 at_:At L s H
 ok:Ok s mc
 box:Zm bx rl N H
 nb:¬ON L s bx
 nr:¬ON L s rl
 nd:¬ON L s dd
 nk:¬ON L s kc
 c:H dd=some (.attrs [(.str "heap",Ft L),(.str "mark",mk),(.str "known", .loc kc)])
 k:H kc≠none
 bd:bx≠dd∧bx≠kc∧rl≠dd∧rl≠kc
 mkd:mk.data=true∧mk.deep≤100
theorem Step.not {L L':Lay}{s s':HS}{H H':AH}(S:Step L s H L' s' H'){a:Addr}(h:H a≠none)(n:¬ON L s a):¬ON L' s' a:=fun o=>(S.our a o).elim n h
theorem Step.kept {L L':Lay}{s s':HS}{H H':AH}(S:Step L s H L' s' H'){a:Addr}(h:H a≠none)(n:¬ON L s a):H' a=H a:=by
 cases e:H a with
 |none=>exact absurd e h
 |some o=>exact S.keep a o e n
section
variable {L L':Lay}{s s':HS}{mc mc' N:Nat}{bx rl dd kc:Addr}{mk:PV}{H H':AH}
theorem Sit.step (x:Sit L s mc N bx rl dd kc mk H)(lk:L.Like L')(A:At L' s' H')(S:Step L s H L' s' H')(ok:Ok s' mc'):Sit L' s' mc' N bx rl dd kc mk H':=by
 rcases x.box with⟨ne,n,xs,h1,h2,h3,h4⟩
 have b0:H bx≠none:=by rw[h3];exact nofun
 have r0:H rl≠none:=by rw[h4];exact nofun
 have d0:H dd≠none:=by rw[x.c];exact nofun
 exact⟨A,ok,⟨ne,n,xs,h1,h2,(S.kept b0 x.nb).trans h3,(S.kept r0 x.nr).trans h4⟩,S.not b0 x.nb,S.not r0 x.nr,S.not d0 x.nd,S.not x.k x.nk,by rw[S.kept d0 x.nd,lk.h];exact x.c,by rw[S.kept x.k x.nk];exact x.k,x.bd,x.mkd⟩
theorem Sit.le (x:Sit L s mc N bx rl dd kc mk H)(l:Le H H'):Sit L s mc N bx rl dd kc mk H':=x.step (.refl L) (x.at_.le l) (Step.le l) x.ok
theorem Sit.went (x:Sit L s mc N bx rl dd kc mk H)(w:Went L s H mc' L' s' H'):Sit L' s' mc' N bx rl dd kc mk H':=x.step w.like w.at_ w.step w.ok
theorem Sit.draw (x:Sit L s mc N bx rl dd kc mk H)(b:Zm bx rl (N+1) H')(k:∀a o,H a=some o→a≠bx→a≠rl→H' a=some o):Sit L s mc (N+1) bx rl dd kc mk H':=by
 refine⟨⟨fun j v=>k _ _ (x.at_.cell j v) (fun e=>x.nb ⟨j,v,e.symm⟩) (fun e=>x.nr ⟨j,v,e.symm⟩),x.at_.inj⟩,x.ok,b,x.nb,x.nr,x.nd,x.nk,k _ _ x.c (Ck x.bd.1) (Ck x.bd.2.2.1),?_,x.bd,x.mkd⟩
 cases e:H kc with
 |none=>exact absurd e x.k
 |some o=>rw[k _ _ e (Ck x.bd.2.1) (Ck x.bd.2.2.2)];exact nofun
theorem Sit.pre (x:Sit L s mc N bx rl dd kc mk H)(n:mk≠Dd s):CPre L s mk dd kc H:=⟨x.at_,x.c,x.nd,x.mkd,fun e=>absurd e n⟩
theorem Sit.ren {mk':PV}{kc':Addr}(x:Sit L s mc N bx rl dd kc mk H)(C:CPre L s mk' dd kc' H')(r:Ren dd kc H H' kc')(h:H' kc'≠none)(hn:kc'=kc∨¬ON L s kc'):Sit L s mc N bx rl dd kc' mk' H':=by
 rcases x.box with⟨ne,n,xs,h1,h2,h3,h4⟩
 have b0:H bx≠none:=by rw[h3];exact nofun
 have r0:H rl≠none:=by rw[h4];exact nofun
 refine⟨C.at_,x.ok,⟨ne,n,xs,h1,h2,r.kp _ _ h3 x.bd.1 x.bd.2.1,r.kp _ _ h4 x.bd.2.2.1 x.bd.2.2.2⟩,x.nb,x.nr,x.nd,?_,C.c,h,⟨x.bd.1,?_,x.bd.2.2.1,?_⟩,C.mkd⟩
 ·exact hn.elim (fun e=>e▸x.nk) id
 ·rcases r.kc with e|e
  ·rw[e];exact x.bd.2.1
  ·exact fun z=>b0 (by rw[z];exact e)
 ·rcases r.kc with e|e
  ·rw[e];exact x.bd.2.2.2
  ·exact fun z=>r0 (by rw[z];exact e)
theorem Ren.not (x:Sit L s mc N bx rl dd kc mk H){kc':Addr}(r:Ren dd kc H H' kc'):kc'=kc∨¬ON L s kc':=r.kc.imp id fun e=>x.at_.notOur e
end
structure Held (L:Lay)(s:HS)(bx rl dd kc lc:Addr)(lo:PO)(H:AH):Prop where
 h:H lc=some lo
 n:¬ON L s lc
 ne:lc≠bx∧lc≠rl∧lc≠dd∧lc≠kc
section
variable {L L':Lay}{s s':HS}{bx rl dd kc lc:Addr}{lo:PO}{H H':AH}
theorem Held.step (x:Held L s bx rl dd kc lc lo H)(S:Step L s H L' s' H'):Held L' s' bx rl dd kc lc lo H':=
 ⟨S.keep _ _ x.h x.n,S.not (by rw[x.h];exact nofun) x.n,x.ne⟩
theorem Held.draw (x:Held L s bx rl dd kc lc lo H)(k:∀a o,H a=some o→a≠bx→a≠rl→H' a=some o):Held L s bx rl dd kc lc lo H':=⟨k _ _ x.h x.ne.1 x.ne.2.1,x.n,x.ne⟩
theorem Held.ren {kc':Addr}(x:Held L s bx rl dd kc lc lo H)(r:Ren dd kc H H' kc'):Held L s bx rl dd kc' lc lo H':=
 ⟨r.kp _ _ x.h x.ne.2.2.1 x.ne.2.2.2,x.n,x.ne.1,x.ne.2.1,x.ne.2.2.1,r.kc.elim (fun e=>e▸x.ne.2.2.2) fun e z=>by have:=x.h;rw[z,e] at this;exact CC this⟩
end
def Sp (sa:Addr)(m:LM)(H:AH):Prop:=∃L s mc N bx rl dd kc ca lc i1 i2 mk z1 z2,
 m=[(A8 "script",some (PV.raw (BY sa))),(A8 "box",some (PV.loc bx)),(A8 "heap",some (Ft L)),(A8 "counts",some (PV.inst 273 ca dd)),(A8 "leaves",some (PV.loc lc)),(A8 "lap",z1),(A8 "many",z2)]∧
  Sit L s mc N bx rl dd kc mk H∧Held L s bx rl dd kc lc (.list [B5 i1,B5 i2]) H∧mk≠Dd s∧mc≤100∧N≤500
def Tn (X:Ctx)(d:Nat)(sa:Addr)(b:List Stmt)(sc:Scope):Prop:=∀H,NW X (d+40) b.dropLast sc.names (RZ sc.names [(A8 "script", .raw (.ref sa))]) H fun f m H=>f= .next∧Sp sa m H
def Mz (K:Frag)(f:Addr)(b:List Stmt)(sc:Scope):Prop:=∃(oc dV kV doc pm cdv ct:Ac) (od an:Option Addr) (osl:Array (Option Ac)) (name qual:Str) (params:Arguments),K.lookup f=some ⟨oc,od, .func (fnOf name qual params b sc dV kV doc pm an cdv ct),osl⟩
theorem W8 {K:Frag}{f:Addr}{oc dV kV doc pm cdv ct:Ac}{od an:Option Addr}{osl:Array (Option Ac)}{name qual:Str}{params:Arguments}{body:List Stmt}{scope:Scope}(ho:K.lookup f=some ⟨oc,od, .func (fnOf name qual params body scope dV kV doc pm an cdv ct),osl⟩)(R:List Stmt→Scope→Prop)(h:R body scope):∃b n,Mz K f b n∧R b n:=⟨_,_,⟨_,_,_,_,_,_,_,_,_,_,_,_,_,ho⟩,h⟩
theorem Ov {K:Frag}{f:Addr}{b b':List Stmt}{sc sc':Scope}(x:Mz K f b sc)(y:Mz K f b' sc'):b=b'∧sc=sc':=by
 refine AI x fun oc zr=>?_;clear x;refine AI zr fun dV zr=>?_;refine AI zr fun kV zr=>?_;refine AI zr fun doc zr=>?_;refine AI zr fun pm zr=>?_;refine AI zr fun cdv zr=>?_;refine AI zr fun ct zr=>?_;refine AI zr fun od zr=>?_;refine Zp zr fun an osl name qual params h=>?_;clear zr
 refine AI y fun oc' zr=>?_;clear y;refine AI zr fun dV' zr=>?_;refine AI zr fun kV' zr=>?_;refine AI zr fun doc' zr=>?_;refine AI zr fun pm' zr=>?_;refine AI zr fun cdv' zr=>?_;refine AI zr fun ct' zr=>?_;refine AI zr fun od' zr=>?_;refine Zp zr fun an' osl' name' qual' params' h'=>?_;clear zr
 rw[h] at h'
 injection h' with h'
 injection h' with _ _ h' _
 injection h' with h'
 have h2:=congrArg FuncData.body h'
 have h3:=congrArg FuncData.scope h'
 refine⟨?_,h3⟩
 simp only[fnOf] at h2
 injection h2
end
section
set_option maxHeartbeats 2000000
open Classical
def Z3:PV→PV
 | .int i=> .int ((i.natAbs:Int).fmod 10007)
 |p=>p
theorem Ri (js:List Int):(js.map PV.int).map Z3=AL (js.map fun i=>((i.natAbs:Int).fmod 10007).toNat):=by
 unfold AL
 rw[AW,AW]
 refine AN fun i uu=>congrArg PV.int ?_
 have:=IC (i.natAbs:Int) (show(0:Int)<10007 by decide)
 refine(?_:(i.natAbs:Int).fmod 10007=(((i.natAbs:Int).fmod 10007).toNat:Int))
 x_go
theorem Ui (js:List Int):C9 (js.map PV.int)=true∧B_ (js.map PV.int)=0:=by
 induction js with
 |nil=>exact⟨rfl,rfl⟩
 |cons a l ih=>exact⟨ih.1,by refine(?_:DG 0 (B_ (l.map PV.int))=0);rw[ih.2];rfl⟩
theorem Ej {n:Nat}(h:n≤1000):small (n:Int):=by unfold small;x_go
section
variable {X:Ctx}{d:Nat}
theorem Xi (hx:XOk X){sa:Addr}{is:List Int}(hs:X.lst=some (sa,is.map .int))(hlen:is.length≤63):
  ∃(b:List Stmt) (n:Scope),Mz (M5.heap_1 X.w.params) 522 b n∧Tn X d sa b n:=by
 refine W8 (K:=M5.heap_1 X.w.params) (f:=522) (by z_go) (fun b n=>Tn X d sa b n) ?_
 intro H
 obtain ⟨Q,hQ⟩:∃Q:Fl→LM→AH→Prop,Q=fun f m H=>f= .next∧Sp sa m H:=⟨_,rfl⟩
 rw[←hQ]
 simp only[List.dropLast]
 refine(?_:vS X (d+40) _ _ _ _ (aw X (d+40) _ _ Q))
 generalize hR:aw X (d+40) _ _ Q=R
 have tail:∀bx rl H1,Zm bx rl 0 H1→R .next [(A8 "script",some (PV.raw (BY sa))),(A8 "box",some (.loc bx)),(A8 "heap",none),(A8 "counts",none),(A8 "leaves",none),(A8 "lap",none),(A8 "many",none)] H1:=by
  subst hR
  intro bx rl H1 b
  refine(?_:NW X (d+40) _ _ _ _ Q)
  z_run
  refine(YX hx).mono fun p0 H2 hq1=>?_
  refine L6 hq1 fun L ep A le fr=>?_;clear hq1
  subst ep
  z_run
  refine(V_ hx).mono fun pc H3 hq2=>?_
  refine M7 hq2 fun ca dd kc ec G=>?_;clear hq2
  subst ec
  have gd:=G.at_ (dd,_) (Ab ..)
  have gk:=G.at_ (kc,_) (Af _ (Ab ..))
  refine Aw b fun bne zr=>?_;clear b;refine IW zr fun bn bxs b1 b2 b3 b4=>?_;clear zr
  have b3':=le _ _ b3
  have b4':=le _ _ b4
  have sit:Sit L VV 0 0 bx rl dd kc .none H3:=by
   refine⟨A.le G.le,YW,⟨bne,bn,bxs,b1,b2,G.le _ _ b3',G.le _ _ b4'⟩,fun o=>?_,fun o=>?_,A.notOur gd.1,A.notOur gk.1,gd.2,by rw[gk.2];exact nofun,⟨fun e=>?_,fun e=>?_,fun e=>?_,fun e=>?_⟩,rfl,AM _⟩
   ·have:=fr _ o;rw[b3] at this;exact HJ this
   ·have:=fr _ o;rw[b4] at this;exact HJ this
   ·have:=gd.1;rw[←e,b3'] at this;exact HJ this
   ·have:=gk.1;rw[←e,b3'] at this;exact HJ this
   ·have:=gd.1;rw[←e,b4'] at this;exact HJ this
   ·have:=gk.1;rw[←e,b4'] at this;exact HJ this
  clear gd gk G A
  have A:=sit.at_
  k_one
  refine(XU hx A sit.ok (by decide) (by decide) (x:=A8 "a") (.inl rfl)).mono fun p H4 hq3=>?_
  refine AI hq3 fun i1 zr=>?_;clear hq3;refine AI zr fun L4 zr=>?_;refine XW zr fun s4 e1 hi1 lk4 A4 S4 ok4 n4 n4'=>?_;clear zr
  subst e1
  have sit:=sit.step lk4 A4 S4 ok4
  rw[←lk4.h]
  have hz:VV.nodes.length=0:=rfl
  have A:=sit.at_
  k_one
  refine(XU hx A sit.ok (by decide) (by exact AJ ‹_› (by decide)) (x:=A8 "b") (.inr (.inl rfl))).mono fun p H5 hq4=>?_
  refine AI hq4 fun i2 zr=>?_;clear hq4;refine AI zr fun L5 zr=>?_;refine XW zr fun s5 e1 hi2 lk5 A5 S5 ok5 n5 n5'=>?_;clear zr
  subst e1
  have sit:=sit.step lk5 A5 S5 ok5
  rw[←lk5.h]
  z_run
  intro lc hlc
  have held:Held L5 s5 bx rl dd kc lc (.list [B5 i1,B5 i2]) (H5.set lc (.list [B5 i1,B5 i2])):=by
   rcases sit.box with⟨_,_,_,_,_,b3,b4⟩
   refine⟨AH.set_self ..,sit.at_.notOur hlc,fun e=>?_,fun e=>?_,fun e=>?_,fun e=>?_⟩
   ·rw[e,b3] at hlc;exact HJ hlc
   ·rw[e,b4] at hlc;exact HJ hlc
   ·rw[e,sit.c] at hlc;exact HJ hlc
   ·exact sit.k (by rw[←e];exact hlc)
  have sit:=sit.le (Le.new (o:= .list [B5 i1,B5 i2]) hlc)
  generalize H5.set lc (.list [B5 i1,B5 i2])=H6 at held sit ⊢
  have z5:s5.nodes.length≤2∧0<s5.nodes.length:=by exact(Al [_,_,_,_] 0x47502180034150020435027212425102) n4' hz hi2 n5'
  clear hi1 hi2 A4 S4 ok4 n4 n4' A5 S5 ok5 n5 n5' hlc lk4 lk5 A hz
  z_run
  refine(Im hx sit.box (many:=4) (by decide) (by decide)).m3 fun r H7 hr bx7 k7=>?_
  have sit:=sit.draw bx7 k7
  have held:=held.draw k7
  z_run
  rw[show(2:Int)+(r:Int)=((2+r:Nat):Int) by x_go]
  refine⟨Ej (by exact(Al [_] 0x3e83802185041840502) hr),?_⟩
  z_run
  rw[GD _]
  refine⟨Ej (n:=0) (by decide),Ej (by exact(Al [_] 0x3e83802185041840502) hr),?_⟩
  refine Ex (fun pre m H'=>∃L s N z1 z2,m=[(A8 "script",some (PV.raw (BY sa))),(A8 "box",some (PV.loc bx)),(A8 "heap",some (Ft L)),(A8 "counts",some (PV.inst 273 ca dd)),(A8 "leaves",some (PV.loc lc)),(A8 "lap",z1),(A8 "many",z2)]∧
    Sit L s 0 N bx rl dd kc .none H'∧Held L s bx rl dd kc lc (.list [B5 i1,B5 i2]) H'∧s.nodes.length≤2+pre.length∧0<s.nodes.length∧N≤1+3*pre.length) (all:=AL (Am (2+r)))
   (fun uu uu uu uu=>trivial) (fun pre x rest m H' ee hI K kn kb kr=>?_) (fun m H' hI=>?_) (pre:=[]) rfl ⟨L5,s5,1,_,_,rfl,sit,held,z5.1,z5.2,Ak _⟩
  ·refine AI hI fun L zr=>?_;clear hI;refine AI zr fun s zr=>?_;refine Tq zr fun N z1 z2 z3 sit held hn h0 hN=>?_;clear zr;subst z3
   have pl:pre.length<5:=by
    have:=congrArg Do ee
    rw[AS,AO,AC,AQ] at this
    exact(Al [_,_,_] 0x518405042505121851241841502) hr this
   rw[Dg] at kn
   clear kb kr ee
   z_run
   refine(Im hx sit.box (many:=2) (by exact(Al [_,_] 0x3e8380051841502131945002) hN pl) (by decide)).m3 fun r1 H8 hr1 bx8 k8=>?_
   have sit:=sit.draw bx8 k8
   have held:=held.draw k8
   have A:=sit.at_
   k_one
   rw[show(1:Int)+(r1:Int)=((1+r1:Nat):Int) by x_go,show((1+r1:Nat):Int) -1=(r1:Int) by x_go]
   obtain ⟨c,hc,hop⟩:∃c,(A8 "fg").cps.toList[r1]? =some c∧Gq ⟨#[c]⟩:=by
    have:r1=0∨r1=1:=by exact(Al [_] 0x401701421840502) hr1
    focus(revert this;refine fun zo=>Ap zo (fun z0=>?_) fun z0=>?_;rotate_left;clear zo;subst z0;rotate_right;clear zo;subst z0)
    ·exact⟨102,by decide+kernel, .inr (.inr (.inl (by decide+kernel)))⟩
    ·exact⟨103,by decide+kernel, .inr (.inr (.inr (by decide+kernel)))⟩
   refine⟨Mine.Internal.nn _,by x_go,c,hc,?_⟩
   z_run
   refine⟨Ej (by exact(Al [_] 0x3e838045021840502) hr1),?_⟩
   z_run
   rw[GD _]
   refine⟨Ej (n:=0) (by decide),Ej (by exact(Al [_] 0x3e838045021840502) hr1),?_⟩
   refine JO (fun pre2 acc m H'=>(∃z,m=[(A8 ".0",none),(A8 "turn",z),(A8 "script",some (PV.raw (BY sa))),(A8 "box",some (PV.loc bx)),(A8 "heap",some (Ft L)),(A8 "counts",some (PV.inst 273 ca dd)),(A8 "leaves",some (PV.loc lc)),(A8 "lap",some x),(A8 "many",some (B5 (1+r1)))])∧
     ∃ks,acc=AL ks∧ks.length=pre2.length∧(∀k∈ks,k<s.nodes.length)∧Sit L s 0 (N+1+pre2.length) bx rl dd kc .none H'∧Held L s bx rl dd kc lc (.list [B5 i1,B5 i2]) H') (all:=AL (Am (1+r1)))
    (fun uu uu uu uu uu=>trivial) (fun pre2 y rest acc m H' ee hI K2 k2=>?_) (fun acc m H' hI c2 hc2=>?_) (pre:=[]) rfl ⟨⟨_,rfl⟩,[],rfl,rfl,nofun,sit,held⟩
   ·refine Aw hI fun z0 zr=>?_;clear hI;refine AI z0 fun z z1=>?_;clear z0;subst z1;refine Rq zr fun ks z1 kl kb sit held=>?_;clear zr;subst z1
    have pl2:pre2.length<2:=by
     have:=congrArg Do ee
     rw[AS,AO,AC,AQ] at this
     exact(Al [_,_,_] 0x2184050425051451221841502) hr1 this
    have A:=sit.at_
    k_one
    refine(Ho hx A (by exact(Al [_,_] 0x3e838005184150212185002) hn pl)).mv ?_
    z_run
    refine(Im hx sit.box (by exact(Al [_,_,_] 0x3e8381405502184150251842502231945002) hN pl pl2) (by assumption)).m3 fun r2 H10 hr2 bx10 k10=>?_
    z_run
    refine⟨by rw[AS _];exact(Al [_,_] 0x186a05800218415021012) kl pl2,k2 _ _ _ ⟨⟨_,rfl⟩,ks++[r2],(FF ..).symm,by rw[Dg _ _,Dg _ _,kl];rfl,fun k hk=>?_,?_,held.draw k10⟩⟩
    ·refine Ap (B6.mp hk) (fun h=>?_) fun h=>?_
     ·exact kb k h
     ·rw[Ao] at h;rw[h];exact hr2
    ·rw[Dg _ _]
     exact sit.draw bx10 k10
   ·refine Aw hI fun z0 zr=>?_;clear hI;refine AI z0 fun z z1=>?_;clear z0;subst z1;refine Rq zr fun ks z1 kl kb sit held=>?_;clear zr;subst z1
    rw[AS,AO] at kl sit
    have no:=sit.at_.notOur hc2
    have l:=Le.new (o:= .list (AL ks)) hc2
    have sit:=sit.le l
    have held:=held.step (Step.le l)
    have hl2:(H'.set c2 (.list (AL ks))) c2=some (.list (AL ks)):=AH.set_self ..
    generalize H'.set c2 (.list (AL ks))=H11 at l sit held hl2 ⊢
    z_run
    refine(VS hx sit.at_ sit.ok (by decide) (by exact(Al [_,_] 0x102840505184150212185002) hn pl) (nd:=⟨⟨#[c]⟩,ks⟩) hop (.inr ⟨c2,rfl,hl2,no⟩) (by refine(?_:ks.length≤2);exact(Al [_,_] 0x2180014501221841502) hr1 kl) kb).mono fun p H12 hq9=>?_
    refine AI hq9 fun i zr=>?_;clear hq9;refine AI zr fun L' zr=>?_;refine XW zr fun s' e1 hi lk A' S' ok' n1 n2=>?_;clear zr
    z_run
    exact(kn _ _ ⟨L',s',N+1+(1+r1),some x,some (B5 (1+r1)),by rw[lk.h];rfl,sit.step lk A' S' ok',held.step S',by exact(Al [_,_,_] 0x41521850042500212185202) hn n2,by exact Bt ‹_› ‹_›,by exact(Al [_,_,_] 0x425319451454055021841502231945002) hN hr1⟩).1
  ·refine AI hI fun L zr=>?_;clear hI;refine AI zr fun s zr=>?_;refine Tq zr fun N z1 z2 z3 sit held hn h0 hN=>?_;clear zr;subst z3
   rw[AS,AO] at hn hN
   z_run
   refine(Im hx sit.box (many:=3) (by exact(Al [_,_] 0x3e83800121853194500241841502) hr hN) (by decide)).m3 fun r H7 hr bx7 k7=>?_
   have sit:=sit.draw bx7 k7
   have held:=held.draw k7
   z_run
   rw[show(1:Int)+(r:Int)=((1+r:Nat):Int) by x_go]
   refine⟨Ej (by exact(Al [_] 0x3e838045031840502) hr),?_⟩
   z_run
   rw[GD _]
   refine⟨Ej (n:=0) (by decide),Ej (by exact(Al [_] 0x3e838045031840502) hr),?_⟩
   refine Ex (fun pre m H'=>∃L s mc N z1,m=[(A8 "script",some (PV.raw (BY sa))),(A8 "box",some (PV.loc bx)),(A8 "heap",some (Ft L)),(A8 "counts",some (PV.inst 273 ca dd)),(A8 "leaves",some (PV.loc lc)),(A8 "lap",z1),(A8 "many",z2)]∧
     Sit L s mc N bx rl dd kc .none H'∧Held L s bx rl dd kc lc (.list [B5 i1,B5 i2]) H'∧s.nodes.length≤7∧0<s.nodes.length∧N≤20+2*pre.length∧mc≤pre.length) (all:=AL (Am (1+r)))
    (fun uu uu uu uu=>trivial) (fun pre x rest m H' ee hI K kn kb kr=>?_) (fun m H' hI=>?_) (pre:=[]) rfl ⟨L,s,0,N+1,_,rfl,sit,held,by exact(Al [_,_] 0x7180012185218500241841502) ‹_› hn,h0,by refine(?_:N+1≤20);exact(Al [_,_] 0x14284050121853194500241841502) ‹_› hN,Ak _⟩
   ·refine AI hI fun L zr=>?_;clear hI;refine AI zr fun s zr=>?_;refine AI zr fun mc zr=>?_;refine L9 zr fun N z1 z2 sit held hn h0 hN hmc=>?_;clear zr;subst z2
    have pl:pre.length<3:=by
     have:=congrArg Do ee
     rw[AS,AO,AC,AQ] at this
     exact(Al [_,_,_] 0x3184050425051451231841502) hr this
    rw[Dg] at kn
    clear kb kr ee
    have A:=sit.at_
    k_one
    refine(Ho hx A (by exact Aa ‹_› (by decide))).mv ?_
    z_run
    refine(Im hx sit.box (by exact(Al [_,_] 0x3e8380031841502121914285002) hN pl) (by assumption)).m3 fun ra H10 hra bx10 k10=>?_
    have sit:=sit.draw bx10 k10
    have held:=held.draw k10
    have A:=sit.at_
    k_one
    refine(Ho hx A (by exact Aa ‹_› (by decide))).mv ?_
    z_run
    refine(Im hx sit.box (by exact(Al [_,_] 0x3e838405031841502121914285002) hN pl) (by assumption)).m3 fun rb H10 hrb bx10 k10=>?_
    have sit:=sit.draw bx10 k10
    have held:=held.draw k10
    z_run
    refine(Rd hx sit.at_ sit.ok (by exact(Al [_,_] 0x3e8384050318415021002) hmc pl) hra hrb).mono fun p H11 hq15=>?_
    refine Aw hq15 fun uu zr=>?_;clear hq15;refine BT zr fun L' s' w he=>?_;clear zr
    z_run
    exact(kn _ _ ⟨L',s',mc+1,N+1+1,some x,by rw[w.like.h];rfl,sit.went w,held.step w.step,by rw[w.nodes];exact hn,by rw[w.nodes];exact h0,by exact(Al [_,_] 0x41521914285440550121914285002) hN,by exact(Al [_,_] 0x41540501002) hmc⟩).1
   ·refine AI hI fun L zr=>?_;clear hI;refine AI zr fun s zr=>?_;refine AI zr fun mc zr=>?_;refine L9 zr fun N z1 z2 sit held hn h0 hN hmc=>?_;clear zr;subst z2
    rw[AS,AO] at hN hmc
    have A:=sit.at_
    k_one
    refine(PD hx sit.at_ sit.ok (by exact(Al [_,_] 0x3e8380014500231841502) hr hmc)).mono fun p H8 hq16=>?_
    refine Aw hq16 fun uu zr=>?_;clear hq16;refine IV zr fun L' s' w=>?_;clear zr
    have sit:=sit.went w
    have held:=held.step w.step
    rw[←w.like.h]
    z_run
    refine(W7 hx sit.ok (by exact(Al [_,_] 0x3e8380014500231841502) hr hmc) (sit.pre nofun) sit.k).m1 fun H9 zr=>?_
    refine IW zr fun mk' kc' hmk C' r' hk'=>?_;clear zr
    have held:=held.ren r'
    have sit:=sit.ren C' r' hk' (Ren.not sit r')
    have n7:s'.nodes.length≤7∧0<s'.nodes.length:=by rw[w.nodes];exact⟨hn,h0⟩
    have A:=sit.at_
    k_one
    refine(Ho hx A (by exact(Al [_] 0x3e83800047507180032) n7)).mv ?_
    z_run
    refine(Im hx sit.box (by exact(Al [_,_] 0x3e838001452191428500231841502) hr hN) (by exact(Al [_] 0x40047507180032) n7)).m3 fun ra H11 hra bx11 k11=>?_
    have sit:=sit.draw bx11 k11
    have held:=held.draw k11
    have A:=sit.at_
    k_one
    refine(Ho hx A (by exact(Al [_] 0x3e83800047507180032) n7)).mv ?_
    z_run
    refine(Im hx sit.box (by exact(Al [_,_] 0x3e83840501452191428500231841502) hr hN) (by exact(Al [_,_] 0x40041502) hra)).m3 fun rb H13 hrb bx13 k13=>?_
    have sit:=sit.draw bx13 k13
    have held:=held.draw k13
    z_run
    refine(Rd hx sit.at_ sit.ok (by exact(Al [_,_] 0x3e838405014500231841502) hr hmc) hra hrb).mono fun p H14 hq22=>?_
    refine Aw hq22 fun uu zr=>?_;clear hq22;refine BT zr fun L2 s2 w2 he=>?_;clear zr
    have sit:=sit.went w2
    have held:=held.step w2.step
    rw[←w2.like.h]
    have A:=sit.at_
    k_one
    refine(PD hx sit.at_ sit.ok (by exact(Al [_,_] 0x3e838405014500231841502) hr hmc)).mono fun p H15 hq23=>?_
    refine Aw hq23 fun uu zr=>?_;clear hq23;refine IV zr fun L3 s3 w3=>?_;clear zr
    have sit:=sit.went w3
    have held:=held.step w3.step
    rw[←w3.like.h]
    z_run
    rw[hQ]
    refine⟨rfl,L3,s3,_,_,bx,rl,dd,kc',ca,lc,i1,i2,mk',_,_,rfl,sit,held,?_,by exact(Al [_,_] 0x6428405014500231841502) hr hmc,by exact(Al [_,_] 0x1f4384405501452191428500231841502) hr hN⟩
    focus(revert hmk;refine fun zo=>Ap zo (fun z0=>?_) fun z0=>?_;rotate_left;clear zo;subst z0;rotate_right;clear zo;subst z0)
    ·exact nofun
    ·intro e
     have:=w3.edges
     have:=EM (HN (HN (PV.tup.inj e)).2).1
     exact(Al [_,_,_] 0x520122102140502) he ‹_› this
 have fin:∀(xs:List Nat) (H1:AH) (c c1 c2:Addr),xs.length≤63→(H1.set c (PO.list (AL xs))) c1=none→((H1.set c (PO.list (AL xs))).set c1 (PO.list (AL xs).reverse)) c2=none→
   R .next [(A8 "script",some (PV.raw (BY sa))),(A8 "box",some (PV.loc c2)),(A8 "heap",none),(A8 "counts",none),(A8 "leaves",none),(A8 "lap",none),(A8 "many",none)]
    (((H1.set c (PO.list (AL xs))).set c1 (PO.list (AL xs).reverse)).set c2 (PO.list [PV.loc c1,PV.int 0])):=by
  intro xs H1 c c1 c2 hx h1 h2
  refine tail c2 c1 _ ⟨fun e=>?_,0,xs.reverse,Ak _,by rw[List.length_reverse];exact Aa ‹_› (by decide),AH.set_self ..,?_⟩
  ·rw[e,AH.set_self] at h2;exact HJ h2
  ·rw[AH.set_ne (fun e=>by rw[←e,AH.set_self] at h2;exact HJ h2),AH.set_self _ _ _]
   exact congrArg (fun l=>some (PO.list l)) List.map_reverse.symm
 clear hR
 z_run
 intro c0 hc0
 z_run
 have M5:=Ui is
 refine Ic _ _ hs (AH.set_self ..) M5.1 rfl (by rw[M5.2];decide) (AM _) ?_
 by_cases q:is=[]
 ·rewrite[show decide (DH PV.int is=[])=true from decide_eq_true (by rw[q];rfl)]
  z_run
  refine⟨by decide,?_⟩
  refine CZ (items:=(Sa).map .int) (fun m H'=>(∃z,m=[(A8 ".0",none),(A8 "cell",z),(A8 "script",some (PV.raw (BY sa))),(A8 "box",none),(A8 "heap",none),(A8 "counts",none),(A8 "leaves",none),(A8 "lap",none),(A8 "many",none)])∧H'=_)
   Z3 (by rw[Ag _];decide) ⟨⟨_,rfl⟩,rfl⟩ (fun uu uu hI=>trivial) (fun x hx' acc m H' K ha hI k=>?_) fun m H' hI c3 h3=>?_
  ·refine Aw hI fun z0 z1=>?_;clear hI;refine AI z0 fun z z1=>?_;clear z0;subst z1;subst z1
   refine AB (AZ.mp hx') fun i uu z2=>?_;subst z2
   z_run
   z_run
   refine⟨by decide,?_⟩
   z_run
   exact⟨ha,k _ _ ⟨⟨_,rfl⟩,rfl⟩⟩
  ·refine Aw hI fun z0 z1=>?_;clear hI;refine AI z0 fun z z1=>?_;clear z0;subst z1;subst z1
   rw[Ri _]
   z_run
   have xl:((Sa).map fun i=>((i.natAbs:Int).fmod 10007).toNat).length≤63:=by rw[Ag _];decide
   refine⟨by rw[AS _];exact Aa ‹_› (by decide),fun c4 h4=>?_⟩
   z_run
   intro c5 h5
   z_run
   exact fin _ _ _ _ _ xl h4 h5
 ·rewrite[show decide (DH PV.int is=[])=false from decide_eq_false (fun e=>q (List.map_eq_nil_iff.mp e))]
  z_run
  refine⟨_,hs,by rw[Ag _];exact Aa ‹_› (by decide),fun c1 h1=>?_⟩
  rw[←HM]
  z_run
  refine⟨by rw[Ag _,DB];exact(Al [_] 0x186a05802828c03f28002) hlen,?_⟩
  refine CZ (items:=(is.take 40).map .int) (fun m H'=>(∃z,m=[(A8 ".0",none),(A8 "cell",z),(A8 "script",some (PV.raw (BY sa))),(A8 "box",none),(A8 "heap",none),(A8 "counts",none),(A8 "leaves",none),(A8 "lap",none),(A8 "many",none)])∧H'=_)
   Z3 (by rw[Ag _];rw[DB];exact(Al [_] 0x186a05802828c0)) ⟨⟨_,rfl⟩,rfl⟩ (fun uu uu hI=>hI.2▸AH.set_self ..) (fun x hx' acc m H' K ha hI k=>?_) fun m H' hI c3 h3=>?_
  ·refine Aw hI fun z0 z1=>?_;clear hI;refine AI z0 fun z z1=>?_;clear z0;subst z1;subst z1
   refine AB (AZ.mp hx') fun i uu z2=>?_;subst z2
   z_run
   z_run
   refine⟨by decide,?_⟩
   z_run
   exact⟨ha,k _ _ ⟨⟨_,rfl⟩,rfl⟩⟩
  ·refine Aw hI fun z0 z1=>?_;clear hI;refine AI z0 fun z z1=>?_;clear z0;subst z1;subst z1
   rw[Ri _]
   z_run
   have xl:((is.take 40).map fun i=>((i.natAbs:Int).fmod 10007).toNat).length≤63:=by rw[Ag _];rw[DB];exact(Al [_] 0x3f2802828c0)
   refine⟨by rw[AS _];exact Aa ‹_› (by decide),fun c4 h4=>?_⟩
   z_run
   intro c5 h5
   z_run
   exact fin _ _ _ _ _ xl h4 h5
end
end
section
open Classical
def fk:Data→Option (Array DictEntry)
 | .dict es _=>some es
 |_=>none
def Ow (K:Frag)(x:Str):Option (Option Ac):=(K.lookup mainGlobals).bind fun o=>(fk o.data).map (nsFind · x)
theorem Nm {K:Frag}{h:Heap}{mg:Str→Option Ac}(k:K.In h)(g:h.Ns mainGlobals mg){x:Str}{r:Option Ac}(e:Ow K x=some r):mg x=r:=by
 refine Wv g fun o es2 ep h1 h2 uu h4=>?_;clear g
 refine AB (Option.bind_eq_some_iff.mp e) fun o' hl e=>?_
 rw[←Ai (h1.symm.trans (k _ _ hl)),h2] at e
 exact(h4 x).symm.trans (Ai e)
def EN (prog:Program)(w:World)(mg mb:Str→Option Ac)(os:OsState)(sa:Addr)(is:List Int)(exc:Option Addr):Ctx:=
 {prog:=prog,w:=w,K:=M5.heap_1 w.params,mg:=mg,mb:=mb,os:=os,glob:=bt.g,meth:=bt.m,fld:=bt.f,lst:=some (sa,is.map .int),exc:=exc}
theorem Z4 {prog:Program}{w:World}{mg mb:Str→Option Ac}{os:OsState}{sa:Addr}{is:List Int}{exc:Option Addr}:XOk (EN prog w mg mb os sa is exc):=⟨rfl,⟨fun uu uu h=>h,fun uu uu uu h=>h,fun uu uu h=>h⟩⟩
theorem Z5 (P:Params):∀q∈cM,FldOk (M5.heap_1 P) q.1 q.2:=by
 intro q hq
 simp only[cM,Aq,Be,or_false] at hq
 focus(revert hq;refine fun zo=>Ap zo (fun z0=>?_) fun z0=>?_;rotate_left;clear zo;rcases z0 with rfl|rfl|rfl|rfl|rfl|rfl|rfl|rfl|rfl|rfl|rfl|rfl|rfl|rfl|rfl|rfl;rotate_right;clear zo;subst z0)
 all_goals exact⟨by z_go,by z_go,by z_go,by z_go,by z_go⟩
theorem Z6 (P:Params):∀q∈cL,MethOk (M5.heap_1 P) q.1 q.2.1 q.2.2:=by
 intro q hq
 simp only[cL,Aq,Be,or_false] at hq
 focus(revert hq;refine fun zo=>Ap zo (fun z0=>?_) fun z0=>?_;rotate_left;clear zo;rcases z0 with rfl|rfl|rfl|rfl|rfl|rfl|rfl|rfl|rfl|rfl|rfl|rfl|rfl|rfl|rfl|rfl|rfl|rfl|rfl|rfl|rfl|rfl|rfl|rfl|rfl|rfl|rfl;rotate_right;clear zo;subst z0)
 all_goals exact⟨by z_go,by z_go,by z_go⟩
end
section
open Classical
section
variable {K:Frag}{h:Heap}{mg mb:Str→Option Ac}
theorem GH {x:Str}{a:Addr}(e:Ow K x=some (some (.ref a)))(k:K.In h)(g:h.Ns mainGlobals mg):∃v,(mg x=some v∨(mg x=none∧mb x=some v))∧AP h (.raw (.ref a)) v:=
 ⟨_, .inl (Nm k g e),by refine AP.w' ?_;rfl⟩
theorem II (gB:∀x:Str,x≠"__name__"→mb x=bootBuiltins x){x:Str}(e:Ow K x=some none)(hn:x≠"__name__"){b:BI}(eb:bootBuiltins x=some b.val)(k:K.In h)(g:h.Ns mainGlobals mg):∃v,(mg x=some v∨(mg x=none∧mb x=some v))∧AP h (.bi b) v:=
 ⟨_, .inr ⟨Nm k g e,(gB x hn).trans eb⟩,by refine AP.k' ?_;rfl⟩
theorem Z7 {x:Str}{i:Int}{t:Tok}(e:Ow K x=some (some (.int i t)))(k:K.In h)(g:h.Ns mainGlobals mg):∃v,(mg x=some v∨(mg x=none∧mb x=some v))∧AP h (.int i) v:=
 ⟨_, .inl (Nm k g e),by refine AP.i' ?_;exact⟨_,rfl⟩⟩
theorem Z8 {x:Str}{a:Addr}{xs:List Ac}{is:List Int}(e:Ow K x=some (some (.ref a)))(el:K.lookup a=some (Gv xs))(hr:AG h (is.map .int) xs)(k:K.In h)(g:h.Ns mainGlobals mg):∃v,(mg x=some v∨(mg x=none∧mb x=some v))∧AP h (.tup (is.map .int)) v:=
 ⟨_, .inl (Nm k g e),by refine AP.t' ?_;exact FQ a xs rfl (k _ _ el) hr⟩
end
theorem W9 {x:Str}{v:PV}:∀{l:List (Str×PV)},tG x l=some v→(x,v)∈l
 |[],h=>nomatch h
 |(y,u)::l,h=>by
  have h:(bif same y x then some u else tG x l)=some v:=h
  cases e:same y x<;>rw[e] at h
  ·exact Af _ (W9 h)
  ·injection h with h
   rw[F1.mp e,h];exact Ab ..
theorem Wa {C:Addr}{x:Str}{v:Addr}:∀{l:List (Nat×Str×Nat)},tM C x l=some v→(C,x,v)∈l
 |[],h=>nomatch h
 |(D,y,u)::l,h=>by
  have h:(bif M4 D C&&same y x then some u else tM C x l)=some v:=h
  cases e:(M4 D C&&same y x)<;>rw[e] at h
  ·exact Af _ (Wa h)
  ·injection h with h
   refine Aw (Ae.mp e) fun e1 e2=>?_
   rw[Fw e1,F1.mp e2,h];exact Ab ..
theorem Wb {C:Addr}{x:Str}:∀{l:List (Nat×Str)},tF C x l=true→(C,x)∈l
 |[],h=>nomatch h
 |(D,y)::l,h=>by
  refine Ap (Eu.mp (show(M4 D C&&same y x||tF C x l)=true from h)) (fun e=>?_) fun e=>?_
  ·refine Aw (Ae.mp e) fun e1 e2=>?_
   rw[Fw e1,F1.mp e2];exact Ab ..
  ·exact Af _ (Wb e)
theorem Z9 {P:Params}{h:Heap}{mg mb:Str→Option Ac}(k:(M5.heap_1 P).In h)(g:h.Ns mainGlobals mg)(gB:∀x:Str,x≠"__name__"→mb x=bootBuiltins x):∀q∈cK,∃v,(mg q.1=some v∨(mg q.1=none∧mb q.1=some v))∧AP h q.2 v:=by
 intro q hq
 simp only[cK,Aq,Be,or_false] at hq
 focus(revert hq;refine fun zo=>Ap zo (fun z0=>?_) fun z0=>?_;rotate_left;clear zo;rcases z0 with rfl|rfl|rfl|rfl|rfl|rfl|rfl|rfl|rfl|rfl|rfl|rfl|rfl|rfl|rfl|rfl|rfl|rfl|rfl|rfl|rfl|rfl|rfl|rfl;rotate_right;clear zo;subst z0)
 ·exact II gB (x:="len") (by z_go) (by decide+kernel) (b:= .len) (by z_go) k g
 ·exact II gB (x:="range") (by z_go) (by decide+kernel) (b:= .range) (by z_go) k g
 ·exact II gB (x:="sorted") (by z_go) (by decide+kernel) (b:= .sorted) (by z_go) k g
 ·exact II gB (x:="sum") (by z_go) (by decide+kernel) (b:= .sum) (by z_go) k g
 ·exact II gB (x:="max") (by z_go) (by decide+kernel) (b:= .max) (by z_go) k g
 ·exact II gB (x:="tuple") (by z_go) (by decide+kernel) (b:= .tuple) (by z_go) k g
 ·exact II gB (x:="list") (by z_go) (by decide+kernel) (b:= .list) (by z_go) k g
 ·exact II gB (x:="set") (by z_go) (by decide+kernel) (b:= .set) (by z_go) k g
 ·exact II gB (x:="dict") (by z_go) (by decide+kernel) (b:= .dict) (by z_go) k g
 ·exact II gB (x:="int") (by z_go) (by decide+kernel) (b:= .int) (by z_go) k g
 ·exact II gB (x:="abs") (by z_go) (by decide+kernel) (b:= .abs) (by z_go) k g
 ·exact II gB (x:="str") (by z_go) (by decide+kernel) (b:= .str) (by z_go) k g
 ·exact GH (x:="Bank") (by z_go) k g
 ·exact GH (x:="Counts") (by z_go) k g
 ·exact GH (x:="Unions") (by z_go) k g
 ·exact GH (x:="Heap") (by z_go) k g
 ·exact GH (x:="is_op") (by z_go) k g
 ·exact GH (x:="_law_draw") (by z_go) k g
 ·exact GH (x:="_law_nodes") (by z_go) k g
 ·exact GH (x:="_law_ways") (by z_go) k g
 ·exact GH (x:="_law_table") (by z_go) k g
 ·exact GH (x:="_law_is_told") (by z_go) k g
 ·exact GH (x:="LimitFault") (by z_go) k g
 ·exact Z7 (x:="MOST_SIZE") (by z_go) k g
 ·exact Z8 (x:="_law_plain") (by z_go) (by z_go) (by repeat first|exact AG.n|refine AG.d ⟨⟨_,rfl⟩,?_⟩) k g
theorem aT {prog:Program}{w:World}{mg mb:Str→Option Ac}{os:OsState}{sa:Addr}{is:List Int}{exc:Option Addr}{h:Heap}(k:(M5.heap_1 w.params).In h)(g:h.Ns mainGlobals mg)(b:h.Ns builtinsNs mb)(gB:∀x:Str,x≠"__name__"→mb x=bootBuiltins x)(nl:h.NoLimit)
  (ls:∃xs n,h.get? sa=some (Go xs n)∧AG h (is.map .int) xs)(ex:∀a,exc=some a→∃o xs,h.get? a=some o∧o.data= .fields xs∧xs[2]? =some .none)(lo:∃a o,4≤a∧h.get? a=some o):(EN prog w mg mb os sa is exc).In h where
 k:=k
 g:=g
 b:=b
 lim:=nl
 gl:=fun x p e=>by
  exact Z9 k g gB _ (W9 e)
 ls:=fun a vs e=>by
  have e:some (sa,is.map PV.int)=some (a,vs):=e
  injection e with e
  injection e with e1 e2
  subst e1 e2
  exact ls
 ex:=ex
 lo:=lo
 fd:=fun C name e=>by
  exact Z5 w.params _ (Wb e)
 mt:=fun C name f e=>by
  exact Z6 w.params _ (Wa e)
end
section
set_option backward.match.sparseCases true
inductive Hi where
 |c (o:Obj)
 |r (r:Result)(s:Ad)
 |q {ι:Type}(f:ι→Result×Ad)(P:ι→Prop)
def W (M:Model)(A:B2){α:Type}(Q:α→Ad→Prop)(E:Ac→Ad→Prop):Sem α→List Hi→Ad→Prop
 | .pure a,_,s=>Q a s
 | .raise e,_,s=>E e s
 | .rule _ k,os,s=>W M A Q E (k ()) os s
 | .at _ k,os,s=>W M A Q E (k ()) os s
 | .point _ k,os,s=>W M A Q E (k ()) os s
 | .load a _ k, .c o::os,s=>s.heap.get? a=some o∧W M A Q E (k o) os s
 | .update a _ f k, .c o::os,s=>s.heap.get? a=some o∧W M A Q E (k ()) os {s with heap:=s.heap.update a f}
 | .alloc o k,os,s=>W M A Q E (k s.heap.objs.size) os {s with heap:=s.heap.push o}
 | .fresh k,os,s=>W M A Q E (k s.toks) os {s with toks:=s.toks+1}
 | .ask k,os,s=>W M A Q E (k ⟨M.prog,M.w.params⟩) os s
 | .handled false k,os,s=>W M A Q E (k A.handled) os s
 | .stack k,os,s=>∀st,W M A Q E (k st) os s
 | .call c none _ _ k, .r r' s'::os,s=>codeAny M A c (fun r t=>r=r'∧t=s') s∧W M A Q E (k r') os s'
 | .call c none _ _ k, .q f P::os,s=>codeAny M A c (fun r t=>∃i,P i∧f i=(r,t)) s∧∀i,P i→W M A Q E (k (f i).1) os (f i).2
 | .call c none _ _ k,[],s=>codeAny M A c (fun r s'=>W M A Q E (k r) [] s') s
 |_,_,_=>False
section
variable {M:Model}{A:B2}{α:Type}{Q:α→Ad→Prop}{E:Ac→Ad→Prop}{t:Sem α}{s:Ad}
theorem aV (os:List Hi)(h:W M A Q E t os s):wpAny M A t Q E s:=by
 intro Γ p hΓ
 induction t generalizing os s p with
 |pure a=>exact h
 |raise e=>exact h
 |rule t k ih=>exact ih _ os h p
 |«at» t k ih=>exact ih _ os h _
 |point l k ih=>exact ih _ os h p
 |load a q k ih=>
  rcases os with _|⟨o|_|_,os⟩
  ·exact h.elim
  ·exact⟨o,h.1,ih _ os h.2 p⟩
  ·exact h.elim
  ·exact h.elim
 |update a q f k ih=>
  rcases os with _|⟨o|_|_,os⟩
  ·exact h.elim
  ·exact⟨by rewrite[h.1];rfl,ih _ os h.2 p⟩
  ·exact h.elim
  ·exact h.elim
 |alloc o k ih=>exact ih _ os h p
 |fresh k ih=>exact ih _ os h p
 |ask k ih=>exact ih _ os h p
 |handled own k ih=>
  induction own using AX with
  |true=>exact h.elim
  |false=>exact ih _ os (show W M A Q E (k Γ.handled) os s from hΓ.1▸h) p
 |stack k ih=>exact ih _ os (h _) p
 |call c hd g l k ih=>
  induction hd using Bq with
  |some v=>exact h.elim
  |none=>
   have go:∀{R},codeAny M A c R s→wpCode M (Γ.enter c none p) R p s:=fun z=>z _ p rfl (hΓ.enter c none p (by intro x;exact CC x))
   rcases os with _|⟨_|⟨r',s'⟩|⟨f,P⟩,os⟩
   ·exact MW (fun r s' h'=>ih r [] h' p) (go h)
   ·exact h.elim
   ·exact MW (fun r t e=>e.1▸e.2▸ih r' os h.2 p) (go h.1)
   ·exact MW (fun r t ⟨i,e,z⟩=>ih r os (by have:=h.2 i e;rw[z] at this;exact this) p) (go h.1)
 |_=>exact h.elim
theorem OW (os:List Hi){P:Prop}(p:P)(h:P=W M A Q E t os s):wpAny M A t Q E s:=aV os (h▸p)
end
section
variable {prog:Program}{w:World}{A:B2}{E:Ac→Ad→Prop}{s:Ad}
def Uj (M:Model)(A:B2)(R:Result→Ad→Prop)(fin:Fin)(s':Ad):Prop:=match fin with
 | .done f=>R (.ok f) s'
 | .again c'=>c'.quiet=true∧codeAny M A c' R s'
def Uk (R:Result→Ad→Prop)(e:Ac)(s':Ad):Prop:=R (.error e) s'
theorem Ox {M:Model}{c:Code}{R:Result→Ad→Prop}(os:List Hi){P:Prop}(p:P)(h:P=W M (A.under c) (Uj M A R) (Uk R) (M.den c) os s):codeAny M A c R s:=IP (OW os p h)
theorem Oy {id:String}{args:Args}{b:Builtin}{R:Result→Ad→Prop}(os:List Hi)(hb:entryFor table id=some b){P:Prop}(p:P)(h:P=W (model prog w) (A.under (.builtin id args)) (Uj (model prog w) A R) (Uk R) (b args) os s):
  codeAny (model prog w) A (.builtin id args) R s:=BZ hb (OW os p h)
theorem Za {id:String}{args:Args}{b:Builtin}{R:Result→Ad→Prop}(os:List Hi)(hb:entryFor table id=some b){P:Prop}(p:P)(h:P=W (model prog w) (A.under (.builtin id args)) (Uj (model prog w) A R) (Uk R) (b args) os s)
  (q:id.startsWith "lifetime."=false)(h2:((IL id args).quiet=true∧codeAny (model prog w) A (.builtin id args) R s)=W (model prog w) (A.under (.call (.builtin id) args)) (Uj (model prog w) A R) (Uk R) ((model prog w).den (.call (.builtin id) args)) [] s):
  codeAny (model prog w) A (.call (.builtin id) args) R s:=Ox [] (An (CE _ q) (Oy os hb p h)) h2
theorem Zb {id:String}{args:Args}{b:Builtin}{R:Result→Ad→Prop}(o:Obj){F:Prop}(f:F)(os:List Hi)(hb:entryFor table id=some b){P:Prop}(p:P)(h:P=W (model prog w) (A.under (.builtin id args)) (Uj (model prog w) A R) (Uk R) (b args) os s)
  (q:id.startsWith "lifetime."=false)(h2:(F∧(IL id args).quiet=true∧codeAny (model prog w) A (.builtin id args) R s)=W (model prog w) (A.under (.call (.builtin id) args)) (Uj (model prog w) A R) (Uk R) ((model prog w).den (.call (.builtin id) args)) [.c o] s):
  codeAny (model prog w) A (.call (.builtin id) args) R s:=Ox [.c o] (An f (An (CE _ q) (Oy os hb p h))) h2
end
end
section
abbrev I1 (e:Addr):Obj:={cls:= .type "method-wrapper",dict:=none,data:= .fields #[.builtin "Exception.__init__", .ref e],slots:=#[]}
abbrev E6 (t:Addr)(tb:Ac)(dd:Option Addr):Obj:={cls:= .ref 72,dict:=dd,data:= .fields #[.ref t,tb, .none, .none, .bool false, .none],slots:=#[]}
abbrev KK (w:World):Frag:=M5.heap_1 w.params
def Rj (w:World)(a:Addr):Obj:=match(KK w).lookup a with|some o=>o|none=>{cls:= .none,data:= .fields #[]}
section
variable {prog:Program}{w:World}{A:B2}{E:Ac→Ad→Prop}{s:Ad}
theorem Jm {h:Heap}(X:(KK w).In h)(a:Addr)(e:((KK w).lookup a).isSome=true):h.get? a=some (Rj w a):=by
 unfold Rj
 cases z:(KK w).lookup a with
 |none=>rw[z] at e;exact FI e
 |some o=>exact X _ _ z
theorem Wc {e t:Addr}{tb:Ac}(X:(KK w).In s.heap)(he:s.heap.get? e=some (E6 t tb none)){R:Result→Ad→Prop}(h:R (.ok (.ret (.ref s.heap.objs.size))) {s with heap:=s.heap.push (I1 e)}):
  codeAny (model prog w) A (.call (.builtin "wrapper_descriptor.__get__") ⟨[.builtin "Exception.__init__", .ref e, .ref 72],[]⟩) R s:=
 Za (b:=Builtin.«wrapper_descriptor.__get__») [.c _, .c _] (I5 (by kernel_rfl)) (An he (An (Jm X 72 rfl) h)) (by z_go) (by decide+kernel) (by z_go)
theorem Wd {so e t:Addr}{tb:Ac}{tk:Tok}(X:(KK w).In s.heap)(he:s.heap.get? (e+73)=some (E6 t tb none))(hso:s.heap.get? so=some (ks_superObj 47 (e+73) 72)){R:Result→Ad→Prop}
  (h:R (.ok (.ret (.ref s.heap.objs.size))) {s with heap:=s.heap.push (I1 (e+73))}):
  codeAny (model prog w) A (.call (.builtin "super.__getattribute__") ⟨[.ref so, .str "__init__" tk],[]⟩) R s:=
 Zb (b:=Builtin.«super.__getattribute__») _ hso [.c _, .c _, .c _, .c _, .c _, .r (.ok (.ret (.ref s.heap.objs.size))) {s with heap:=s.heap.push (I1 (e+73))}] F.ks_entry_super_ga
  (An hso (An hso (An hso (An (Jm X cStatics rfl) (An (Jm X 72 rfl) (An (Wc X he (R:=fun r t=>r=_∧t=_) ⟨rfl,rfl⟩) h)))))) (by z_go) (by decide+kernel) (by z_go)
theorem Sq {so e t:Addr}{tb:Ac}{pl:Sem Bool}{Q:Ac×List Ac→Ad→Prop}(X:(KK w).In s.heap)(he:s.heap.get? (e+73)=some (E6 t tb none))(hso:s.heap.get? so=some (ks_superObj 47 (e+73) 72))
  (hq:Q (.ref s.heap.objs.size,[]) {s with heap:=s.heap.push (I1 (e+73)),toks:=s.toks+1}):
  wpAny (model prog w) A (getMethod (.ref so) "__init__" pl) Q E s:=
 OW [.c _, .c _, .r (.ok (.ret (.ref s.heap.objs.size))) {s with heap:=s.heap.push (I1 (e+73)),toks:=s.toks+1}] (An hso (An hso (An (Wd (s:={s with toks:=s.toks+1}) X he hso (R:=fun r t=>r=_∧t=_) ⟨rfl,rfl⟩) hq))) (by z_go)
theorem Rk {u e:Addr}{Q:Keeper→Ad→Prop}(hu:s.heap.get? u=some (I1 e))(h:Q .machine s):wpAny (model prog w) A (keeperOf (.ref u)) Q E s:=OW [.c _] (An hu h) (by z_go)
theorem OX {pos:Pos}{u e:Addr}{first:List Ac}{args:List (Bool×Sem Ac)}{Q:Ac→Ad→Prop}(hplain:args.any (·.1)=false)
  (h:wpAny (model prog w) A (evalArgs (.ref u) true args []) (fun x s₁=>s₁.heap.get? u=some (I1 e)∧wpAny (model prog w) A (call (.ref u) (first++x.pos) x.kw) Q E s₁) E s):wpAny (model prog w) A (callWith pos (.ref u) first args []) Q E s:=by
 exact M_ (P:=fun g=>g.get? u=some (I1 e)) (by rw[hplain];rfl) (fun g x=>⟨.machine, .inr (.inl rfl),fun A Q E s k q=>Rk (k _ _ x) q⟩) h
theorem Ul {u e t:Addr}{v:Ac}{R:Result→Ad→Prop}(X:(KK w).In s.heap)(hu:s.heap.get? u=some (I1 e))(he:s.heap.get? e=some (E6 t .none none))
  (hq:∀h' t',(∀b o,b≠e→s.heap.get? b=some o→h'.get? b=some o)→h'.get? e=some (E6 t' .none none)→R (.ok (.ret .none)) {s with heap:=h'}):
  codeAny (model prog w) A (.call (.ref u) ⟨[v],[]⟩) R s:=by
 have h2:=Aj (Gv [v]) he
 have i:codeAny (model prog w) A (.builtin "Exception.__init__" ⟨[.ref e,v],[]⟩) R s:=Oy [.c _, .c _, .c _] GY.initEntry
  (An h2 (An h2 (An h2 (hq ((s.heap.push (Gv [v])).update e (Bu fun x=>x.setIfInBounds 0 (.ref s.heap.objs.size))) s.heap.objs.size
    (fun b o hne hb=>(B0 _ _ (Ck hne)).trans (Aj _ hb)) (AK _ h2 rfl))))) (by z_go)
 exact Ox [.c _, .c _, .c _] (An hu (An he (An (Jm X 72 rfl) (An (CE (id:="Exception.__init__") ⟨[.ref e,v],[]⟩ (by decide+kernel)) i)))) (by z_go)
theorem Um {u e t:Addr}{v:Ac}{Q:Ac→Ad→Prop}(X:(KK w).In s.heap)(hu:s.heap.get? u=some (I1 e))(he:s.heap.get? e=some (E6 t .none none))
  (hq:∀h' t',(∀b o,b≠e→s.heap.get? b=some o→h'.get? b=some o)→h'.get? e=some (E6 t' .none none)→Q .none {s with heap:=h'}):
  wpAny (model prog w) A (call (.ref u) [v]) Q E s:=IM (Ul X hu he hq)
end
end
section
section
variable {prog:Program}{w:World}{A:B2}{E:Ac→Ad→Prop}{s:Ad}
abbrev dO:Obj:={cls:= .type "dict",data:= .dict #[]}
abbrev ek (w:World)(tk:Tok)(v:Ac):Obj→Obj:=N1 (A8 "what") (if(A8 "what").cps.isEmpty=true then 0 else reduceHash (w.params.strHash (A8 "what").cps)) (.str (A8 "what") tk) v
abbrev aW (h:Heap)(e:Addr):Heap:=(h.push dO).update e fun o=>{o with dict:=some h.objs.size}
abbrev Un (w:World)(h:Heap)(e:Addr)(tk:Tok)(v:Ac):Heap:=(aW h e).update h.objs.size (ek w tk v)
theorem We {h:Heap}{e:Addr}{o:Obj}(he:h.get? e=some o):(aW h e).get? h.objs.size=some dO:=(B0 _ _ (BL (Ax he))).trans (Ar _ rfl)
theorem Wf {h:Heap}{e t:Addr}{tk:Tok}{v:Ac}(he:h.get? e=some (E6 t .none none)):(Un w h e tk v).get? e=some (E6 t .none (some h.objs.size)):=
 (B0 _ _ (Cc (Ax he))).trans (AK _ (Aj _ he) rfl)
theorem Sr {h:Heap}{e:Addr}{tk:Tok}{v:Ac}:∀b o,b≠e→h.get? b=some o→(Un w h e tk v).get? b=some o:=fun b o hb hg=>
 (B0 _ _ (Cc (Ax hg))).trans ((B0 _ _ (Ck hb)).trans (Aj _ hg))
theorem Xj {e t:Addr}{v:Ac}{tk:Tok}(X:(KK w).In s.heap)(he:s.heap.get? e=some (E6 t .none none)):
  codeAny (model prog w) A (.builtin "object.__setattr__" ⟨[.ref e, .str "what" tk,v],[]⟩) (fun r u=>r= .ok (.ret .none)∧u={s with heap:=Un w s.heap e s.toks v,toks:=s.toks+1}) s:=
 have k:=Jm X
 have h3:=We he
 Oy [.c _, .c _, .c _, .c _, .c _, .c _, .c _, .c _, .c _, .c _, .c _, .c _, .c _, .c _] PySem.F.store_object.entry
  (An he (An (k 72 rfl) (An he (An (k 72 rfl) (An (k 72 rfl) (An (k 71 rfl) (An (k 47 rfl) (An (k 46 rfl) (An he (An (k 72 rfl)
   (An (Aj dO he) (An h3 (An h3 (An (AK (ek w s.toks v) h3 rfl) (An rfl rfl))))))))))))))) (by z_go)
theorem Wg {e t:Addr}{v:Ac}{tk:Tok}(X:(KK w).In s.heap)(he:s.heap.get? e=some (E6 t .none none)):
  codeAny (model prog w) A (.call (.builtin "object.__setattr__") ⟨[.ref e, .str "what" tk,v],[]⟩) (fun r u=>r= .ok (.ret .none)∧u={s with heap:=Un w s.heap e s.toks v,toks:=s.toks+1}) s:=
 Ox [.c _, .c _] (An he (An (Jm X 72 rfl) (An (CE (id:="object.__setattr__") _ (by decide+kernel)) (Xj (tk:=tk) X he)))) (by z_go)
theorem Xk {e t:Addr}{v:Ac}{Q:Unit→Ad→Prop}(X:(KK w).In s.heap)(he:s.heap.get? e=some (E6 t .none none))(hq:Q () {s with heap:=Un w s.heap e (s.toks+1) v,toks:=s.toks+2}):
  wpAny (model prog w) A (setAttr (.ref e) "what" v) Q E s:=
 have k:=Jm X
 OW [.c _, .c _, .c _, .c _, .c _, .c _, .r (.ok (.ret .none)) {s with heap:=Un w s.heap e (s.toks+1) v,toks:=s.toks+2}]
  (An he (An (k 72 rfl) (An (k 72 rfl) (An (k 71 rfl) (An (k 47 rfl) (An (k 46 rfl) (An (Wg (s:={s with toks:=s.toks+1}) (tk:=s.toks) X he) hq))))))) (by z_go)
end
end
section
set_option backward.match.sparseCases true
open Classical
structure ProgOk (prog:Program):Prop where
 file:((prog.main.file:Str) == ("/claim/cut.py":Str))=true
 top:(prog.main.scope.names.lookup ("super":Str)).isSome=false
structure NsOk (w:World)(mg mb:Str→Option Ac)(h:Heap):Prop where
 k:(M5.heap_1 w.params).In h
 g:h.Ns mainGlobals mg
 b:h.Ns builtinsNs mb
 lim:h.NoLimit
 sb:mb "super"=some (.type "super")
theorem NsOk.keeps {w:World}{mg mb:Str→Option Ac}{h h':Heap}(x:NsOk w mg mb h)(k:BH h h'):NsOk w mg mb h':=⟨x.k.keeps k,x.g.keeps k,x.b.keeps k,x.lim.keeps k,x.sb⟩
section
variable {prog:Program}{w:World}{A:B2}{E:Ac→Ad→Prop}{s:Ad}{mg mb:Str→Option Ac}
theorem Wh {R:Result→Ad→Prop}{name qual:Str}{params:Arguments}{body:List Stmt}{scope:Scope}{dV kV doc pm cdv ct oc:Ac}{an od:Option Addr}{osl:Array (Option Ac)}{f cc:Addr}{args:Args}{binds:List (Str×Ac)}
  (hroom:A.depth<recursionLimit)(N:NsOk w mg mb s.heap)
  (ho:(M5.heap_1 w.params).lookup f=some ⟨oc,od, .func (ksFn name qual params body scope dV kV doc pm an cdv ct cc),osl⟩)(hcd:codeIn (M5.heap_1 w.params) cdv qual=true)
  (hbind:BindsTo s (ksFn name qual params body scope dV kV doc pm an cdv ct cc) args binds)(hcell:∀x∈scope.names,x.2≠ .cell)(hloc:∀y∈binds,scope.names.lookup y.1=some .local)
  (hco:scope.isCoroutine=false)(hgen:scope.isGenerator=false)(hk:scope.kind= .function)
  (h:∀h₀,h₀.Ns s.heap.objs.size (fun x=>binds.reverse.lookup x)→(∀b o,s.heap.get? b=some o→h₀.get? b=some o)→
   _root_.PySem.wpAt (model prog w) (A.deeper (ksEnv qual scope s.heap.objs.size f cdv cc)) (.func body (ksEnv qual scope s.heap.objs.size f cdv cc)) (execs body (ksEnv qual scope s.heap.objs.size f cdv cc)) (fun fl s'=>R (.ok (.ret (match fl with| .ret v=>v|_=> .none))) s')
    (fun e s'=>False) {s with heap:=h₀,toks:=s.toks+binds.length}):
  codeAny (model prog w) A (.call (.ref f) args) R s:=by
 refine ks_codeAny_call_defAt (fd:=ksFn name qual params body scope dV kV doc pm an cdv ct cc) (body:=body) (binds:=binds) hroom (N.k _ _ ho) rfl N.lim (OL N.k hcd) rfl hbind hcell hloc (fun h₁ hns hk₁=>?_) hco hgen hk
 exact ks_wpAt_mono (h h₁ hns hk₁) (fun uu uu y=>y) fun uu uu y=>y.elim
theorem Rl {f:Ac}{e:Expr}{pos:Pos}{env:Env}{Q:Args→Ad→Prop}(h:wpAny (model prog w) A (eval e env) (fun v s1=>Q ⟨[v],[]⟩ s1) E s)
  (he:starEach [e] env=[(false,eval e env)]):wpAny (model prog w) A (evalArgs f true (backTo pos (starEach [e] env)) []) Q E s:=by
 have h2:wpAny (model prog w) A (spliced (backTo pos (starEach [e] env))) (fun vs s'=>Q ⟨vs,[]⟩ s') E s:=
  spliced_more (Dc h (fun v s1 h1=>spliced_none h1) fun uu uu x=>x) he
 rw[he] at h2 ⊢
 exact LW h2
set_option tactic.hygienic true in
theorem Su {R:Result→Ad→Prop}{e t:Addr}{msg:Str}{tk:Tok}(P:ProgOk prog)(N:NsOk w mg mb s.heap)(hA:A.depth+20<recursionLimit)(he:s.heap.get? e=some (E6 t .none none))(hKe:(M5.heap_1 w.params).lookup e=none)(h73:73≤e)
  (k:∀h' dd t' tk,(∀b o,b≠e→s.heap.get? b=some o→h'.get? b=some o)→h'.get? e=some (E6 t' .none (some dd))→R (.ok (.ret .none)) {s with heap:=h',toks:=tk}):
  codeAny (model prog w) A (.call (.ref 37) ⟨[.ref e, .str msg tk],[]⟩) R s:=by
 refine AI (HA h73) fun e z1=>?_;subst z1
 refine Wh (f:=37) (cc:=25) (binds:=[("self", .ref (e+73)),("what", .str msg tk)]) (by exact(Al [_,_] 0x1405014142805502) hA) N (by z_go) (by z_go) (BindsTo.of_eq rfl) (by decide+kernel) (locs rfl) rfl rfl rfl fun h₀ ns kp=>?_
 generalize hm:(fun(x:Str)=>Hx x (List.reverse (_:List (Str×Ac))))=m at ns
 have hself:m "self"=some (.ref (e+73)):=by rw[←hm];rfl
 have hwhat:m "what"=some (.str msg tk):=by rw[←hm];rfl
 clear hm
 rcases s with⟨h,g,d,tk0,os⟩
 have he0:h.get? (e+73)=some (E6 t .none none):=he
 have N0:=N.keeps kp
 have he:h₀.get? (e+73)=some (E6 t .none none):=kp _ _ he
 have X:=N0.k
 have nL:h.objs.size≠e+73:=Cc (Ax he0)
 have newL:h.get? h.objs.size=none:=Dj (Ak _)
 obtain ⟨cd47,oD,hD0,hD2⟩:∃cd oD,(M5.heap_1 w.params).lookup 47=some oD∧oD.data= .cls cd:=⟨_,_,by z_go,by rfl⟩
 have hD1:=X _ _ hD0
 refine KH (ks_wpAt_Expr_any (ks_wpAt_MethodCall ?_))
 refine ks_wpAt_super_base rfl rfl (by decide+kernel) rfl (X _ _ (by z_go)) rfl rfl rfl (X 36 _ (by z_go)) (by z_go) (by z_go) P.file P.top ?_
 refine ks_loadName_global rfl rfl (KG N0.g (ns_none_of X N0.g (by z_go)) N0.b N0.sb ⟨rfl,?_⟩)
 refine JV rfl rfl rfl ⟨_,X 25 _ (by z_go),rfl⟩ ?_
 refine CK rfl rfl ns hself ?_
 refine ks_wpAny_isType_cls hD1 hD2 ⟨rfl,?_⟩
 refine ks_wpAny_call_super hD1 hD2 he rfl (fun c q=>by cases q) (looks_mroIn X (by z_go)) (fun h1 e1 k1=>?_)
 have k1:BH h₀ h1:=k1
 have X1:=X.keeps k1
 have he1:=k1 _ _ he
 refine Sq X1 he1 e1 ?_
 dsimp only
 have k2:BH h1 (h1.push (I1 (e+73))):=fun b o hb=>Aj _ hb
 have hu:(h1.push (I1 (e+73))).get? h1.objs.size=some (I1 (e+73)):=Ar _ rfl
 refine OX (e:=e+73) rfl (Rl (FW (CK rfl rfl (ns.keeps (k1.trans k2)) hwhat ⟨hu,?_⟩) (by decide+kernel)) rfl)
 refine Um (X1.keeps k2) hu (k2 _ _ he1) fun h3 t3 k3 e3=>?_
 have X3:(M5.heap_1 w.params).In h3:=fun a o q=>k3 a o (fun z=>by rw[z,hKe] at q;exact CC q) (k2 _ _ (X1 _ _ q))
 have ns3:h3.Ns h.objs.size m:=let⟨o,es,ep,g,r⟩:=ns;⟨o,es,ep,k3 _ _ nL (k2 _ _ (k1 _ _ g)),r⟩
 refine KH (ks_wpAt_Assign_Attr (En (FW (CK rfl rfl ns3 hwhat (FW (CK rfl rfl ns3 hself (Xk X3 e3 ?_)) (by decide+kernel))) (by decide+kernel))))
 refine En (Gc ?_)
 exact k _ _ t3 _ (fun b o hb hg=>Sr b o hb (k3 b o hb (k2 _ _ (k1 _ _ (kp _ _ hg))))) (Wf e3)
end
end
section
section
variable {prog:Program}{w:World}{A:B2}{E:Ac→Ad→Prop}{s:Ad}{mg mb:Str→Option Ac}{msg:Str}{mt:Tok}{e:Addr}
abbrev Qm (h:Heap)(msg:Str)(mt:Tok):Heap:=(h.push (Gv [.str msg mt])).push (E6 h.objs.size .none none)
abbrev Zc (e:Addr)(s:Ad)(msg:Str)(mt:Tok)(r:Result)(u:Ad):Prop:=r= .ok (.ret (.ref (e+73)))∧u={s with heap:=Qm s.heap msg mt}
theorem Ip {h:Heap}:BH h (Qm h msg mt):=fun uu uu hb=>Aj _ (Aj _ hb)
theorem Xl (X:(KK w).In s.heap)(hE:(s.heap.push (Gv [.str msg mt])).objs.size=e+73):
  codeAny (model prog w) A (.builtin "Exception.__new__" ⟨[.ref 72, .str msg mt],[]⟩) (Zc e s msg mt) s:=by
 refine codeAny_builtinAt GY.entry ?_
 refine Iv (m:=(stack>>=_)) (Iv (_root_.PySem.wpAt_stack fun p below=>En ?_))
 have k:=Jm X
 with_unfolding_all refine aV [] (En ?_)
 have k:=k 72 rfl
 exact OW (Cw 10 (.c (Rj w 72))) (An k (An k (An k (An k (An k (An k (An k (An k (An k (An (Ip (msg:=msg) (mt:=mt) _ _ k) (show Zc e s msg mt (.ok (.ret (.ref (s.heap.push (Gv [.str msg mt])).objs.size))) {s with heap:=Qm s.heap msg mt} from⟨hE▸rfl,rfl⟩))))))))))) (by kernel_rfl)
theorem Wi (X:(KK w).In s.heap)(hE:(s.heap.push (Gv [.str msg mt])).objs.size=e+73):
  codeAny (model prog w) A (.call (.builtin "Exception.__new__") ⟨[.ref 72, .str msg mt],[]⟩) (Zc e s msg mt) s:=
 have k:=Jm X 72 rfl
 Ox [.c _, .c _, .c _, .c _, .c _, .c _, .c _] (An k (An k (An k (An k (An k (An k (An k (An (CE (id:="Exception.__new__") _ (by decide+kernel)) (Xl X hE)))))))))
  (by z_go)
structure MadeX (h:Heap)(e:Addr)(i:Heap×Addr×Addr×Tok):Prop where
 k:BH h i.1
 g:i.1.get? (e+73)=some (E6 i.2.1 .none (some i.2.2.1))
abbrev Oz (s:Ad)(v:Ac)(i:Heap×Addr×Addr×Tok):Result×Ad:=(.ok (.ret v),{s with heap:=i.1,toks:=i.2.2.2})
theorem Wj (P:ProgOk prog)(N:NsOk w mg mb s.heap)(hA:A.depth+20<recursionLimit)(hE:(s.heap.push (Gv [.str msg mt])).objs.size=e+73):
  codeAny (model prog w) A (.call (.ref 37) ⟨[.ref (e+73), .str msg mt],[]⟩) (fun r t=>∃i,MadeX s.heap e i∧Oz {s with heap:=Qm s.heap msg mt} .none i=(r,t)) {s with heap:=Qm s.heap msg mt}:=by
 have hs:e+73=s.heap.objs.size+1:=hE.symm.trans (B3 ..)
 have hnew:s.heap.get? (e+73)=none:=Dj (hs▸BM _)
 have he:(Qm s.heap msg mt).get? (e+73)=some (E6 s.heap.objs.size .none none):=hE▸Ar _ rfl
 refine Su P (N.keeps Ip) hA he ?_ (Nat.le_add_left ..) fun h' dd t' tk k3 e3=>⟨(h',t',dd,tk),⟨fun b o hb=>k3 b o (fun z=>?_) (Ip _ _ hb),e3⟩,rfl⟩
 ·cases z:(M5.heap_1 w.params).lookup (e+73) with
  |none=>rfl
  |some o=>exact absurd (N.k _ _ z) (by rw[hnew];exact nofun)
 ·rw[z,hnew] at hb
  exact CC hb
theorem Wk (P:ProgOk prog)(N:NsOk w mg mb s.heap)(hA:(A.under (.builtin "type.__call__" ⟨[.ref 72, .str msg mt],[]⟩)).depth+20<recursionLimit)(hE:(s.heap.push (Gv [.str msg mt])).objs.size=e+73):
  codeAny (model prog w) A (.builtin "type.__call__" ⟨[.ref 72, .str msg mt],[]⟩) (fun r t=>∃i,MadeX s.heap e i∧Oz s (.ref (e+73)) i=(r,t)) s:=
 have k:=Jm N.k
 have k1:=Jm (N.k.keeps (Ip (msg:=msg) (mt:=mt)))
 have he:(Qm s.heap msg mt).get? (e+73)=some (E6 s.heap.objs.size .none none):=hE▸Ar _ rfl
 Oy [.c _, .c _, .c _, .r (.ok (.ret (.ref (e+73)))) {s with heap:=Qm s.heap msg mt}, .c _, .c _, .c _, .c _, .c _, .c _, .c _, .c _, .c _, .q (Oz {s with heap:=Qm s.heap msg mt} .none) (MadeX s.heap e)] entry_typeCall
  (An (k 72 rfl) (An (k 72 rfl) (An (k 72 rfl) (An (Wi N.k hE) (An he (An (k1 72 rfl) (An he (An (k1 72 rfl) (An (k1 72 rfl) (An (k1 71 rfl) (An (k1 47 rfl) (An (k1 46 rfl) (An (k1 37 rfl)
   (An (Wj P N hA hE) (fun i (hi:MadeX s.heap e i)=>(⟨i,hi,rfl⟩:∃j,MadeX s.heap e j∧Oz s (.ref (e+73)) j=(.ok (.ret (.ref (e+73))),{s with heap:=i.1,toks:=i.2.2.2})))))))))))))))))
  (by z_go)
theorem Uo (P:ProgOk prog)(N:NsOk w mg mb s.heap)(hA:(A.under (.builtin "type.__call__" ⟨[.ref 72, .str msg mt],[]⟩)).depth+20<recursionLimit)(hE:(s.heap.push (Gv [.str msg mt])).objs.size=e+73):
  codeAny (model prog w) A (.call (.builtin "type.__call__") ⟨[.ref 72, .str msg mt],[]⟩) (fun r t=>∃i,MadeX s.heap e i∧Oz s (.ref (e+73)) i=(r,t)) s:=
 have k:=Jm N.k 72 rfl
 Ox [.c _] (An k (An (CE (id:="type.__call__") _ (by decide+kernel)) (Wk P N hA hE))) (by z_go)
theorem Wl (P:ProgOk prog)(N:NsOk w mg mb s.heap)(hA:(A.under (.builtin "type.__call__" ⟨[.ref 72, .str msg mt],[]⟩)).depth+20<recursionLimit)(hE:(s.heap.push (Gv [.str msg mt])).objs.size=e+73):
  codeAny (model prog w) A (.call (.ref 72) ⟨[.str msg mt],[]⟩) (fun r t=>∃i,MadeX s.heap e i∧Oz s (.ref (e+73)) i=(r,t)) s:=
 have k:=Jm N.k 72 rfl
 Ox [.c _, .c _] (An k (An k (An (show(Code.call (.builtin "type.__call__") ⟨[.ref 72, .str msg mt],[]⟩).quiet=true from rfl) (Uo P N hA hE)))) (by z_go)
theorem Sv {Q:Ac→Ad→Prop}(P:ProgOk prog)(N:NsOk w mg mb s.heap)(hA:A.depth+30<recursionLimit)
  (hq:∀h' e dd t' tk,BH s.heap h'→s.heap.get? e=none→h'.get? e=some (E6 t' .none (some dd))→Q (.ref e) {s with heap:=h',toks:=tk}):
  wpAny (model prog w) A (call (.ref 72) [.str msg mt]) Q E s:=by
 have hs:(s.heap.push (Gv [.str msg mt])).objs.size=s.heap.objs.size+1:=B3 ..
 refine AI (HA (show 73≤(s.heap.push (Gv [.str msg mt])).objs.size from hs▸CF (AU (Ax (Jm N.k 72 rfl))))) fun e hE=>?_
 have hnew:s.heap.get? (e+73)=none:=Dj (hE▸hs▸BM _)
 have hw:(A.under (.builtin "type.__call__" ⟨[.ref 72, .str msg mt],[]⟩)).depth+20<recursionLimit:=AJ (show A.depth+1+20≤A.depth+30 by exact(Al [_] 0x1e2805142840550)) hA
 exact OW [.q (Oz s (.ref (e+73))) (MadeX s.heap e)] (An (Wl P N hw hE) (fun i (hi:MadeX s.heap e i)=>hq i.1 (e+73) i.2.2.1 i.2.1 i.2.2.2 hi.k hnew hi.g)) (by z_go)
end
end
section
open Classical
section
variable {prog:Program}{w:World}{A:B2}{E:Ac→Ad→Prop}{s:Ad}{mg mb:Str→Option Ac}{env:Env}
theorem Up {e t dd:Addr}{Q:Flow→Ad→Prop}(hh:A.handled=none)(X:(KK w).In s.heap)(he:s.heap.get? e=some (E6 t .none (some dd)))(hE:E (.ref e) s):
  wpAny (model prog w) A (raiseStmt env (some (pure (.ref e))) none) Q E s:=by
 rcases A with⟨a,b,c,d⟩
 subst hh
 have k:=Jm X 72 rfl
 exact OW [.c _, .c _, .c _, .c _, .c _, .c _, .c _] (An he (An he (An k (An he (An he (An k (An he hE))))))) (by z_go)
theorem Sx {x:Sem Ac}{Q:Flow→Ad→Prop}(hh:A.handled=none)
  (h:wpAny (model prog w) A x (fun v s₁=>∃e t dd,v= .ref e∧(KK w).In s₁.heap∧s₁.heap.get? e=some (E6 t .none (some dd))∧E (.ref e) s₁) E s):
  wpAny (model prog w) A (raiseStmt env (some x) none) Q E s:=by
 refine A7 (Dc h (fun v s₁ h₁=>?_) fun uu uu x=>x)
 refine Wv h₁ fun e t dd z3 X he hE=>?_;clear h₁;subst z3
 exact Up (env:=env) hh X he hE
theorem Sy {Q:Keeper→Ad→Prop}(X:(KK w).In s.heap)(h:Q .machine s):wpAny (model prog w) A (keeperOf (.ref 72)) Q E s:=
 have k:=Jm X 72 rfl
 OW [.c (Rj w 72), .c (Rj w 72)] (An k (An k (h))) (by kernel_rfl)
theorem Rm {np cpos pos jp sp ip fp rp:Pos}{a b:Str}{Q:Flow→Ad→Prop}(P:ProgOk prog)(N:NsOk w mg mb s.heap)(hA:A.depth+30<recursionLimit)(hh:A.handled=none)
  (hk:env.scope.kind= .function)(hk1:env.kindOf "LimitFault"=some .globalImplicit)(hk2:env.kindOf "MOST_SIZE"=some .globalImplicit)(ha:a.length≤1000)(hb:b.length≤1000)
  (hglo:env.globals=mainGlobals)
  (hq:∀h' e dd t' tk,BH s.heap h'→s.heap.get? e=none→h'.get? e=some (E6 t' .none (some dd))→E (.ref e) {s with heap:=h',toks:=tk}):
  wpAny (model prog w) A (exec (.Raise (some (.Call (.Name "LimitFault" np) [.JoinedStr [.Constant (.str a) 0 sp, .FormattedValue (.Name "MOST_SIZE" ip) (-1) none fp, .Constant (.str b) 0 rp] jp] [] cpos)) none pos) env) Q E s:=by
 have m1:mg "LimitFault"=some (.ref 72):=mg_of N.k N.g (by z_go)
 have m2:mg "MOST_SIZE"=some (.int 200 413):=mg_of N.k N.g (by z_go)
 rw[arm_exec_Raise _ _ _ _]
 refine A7 (B8 (Sx hh ?_))
 refine A7 (Dc (wpAny_Call_ofName ?_) (fun v s₃ h₃=>A7 (B8 (A9 h₃))) fun uu uu x=>x)
 refine CL hk hk1 (DZ (mg:=mg) (by rw[hglo];exact N.g) m1 ?_) (by decide+kernel)
 have z1:(Str.empty++a).length≤1000:=by rw[DU _ _];have z0:Str.empty.length=0:=rfl;exact(Al [_,_] 0x3e838105070123e838102) ha z0
 have z3:(toString (200:Int):Str).length=3:=by decide+kernel
 refine A7 (Ay (Rl (JoinedStr_many (JA (Constant_str ⟨by rw[AV];exact Aa ‹_› (by decide),JA (FormattedValue_plain (CL hk hk2 (DZ (mg:=mg) (by rw[hglo];exact N.g) m2
  (formatField_int_small (by decide+kernel) ⟨by rw[DU _ _,AV];exact(Al [_,_] 0x10000007810503181123e838002) z1 z3,JA (Constant_str ⟨by rw[DU _ _,DU _ _,AV];exact(Al [_,_,_] 0x1000000782105503181123e8380023e838202) hb z1 z3,joinParts_nil ?_ (by rw[DU _ _,DU _ _,AV];exact(Al [_,_,_] 0x1000000782105503181123e8380023e838202) hb z1 z3)⟩)⟩)) (by decide+kernel)))⟩))) rfl))
 refine A7 (B8 ?_)
 have hplain:(backTo cpos (starEach [Expr.JoinedStr [.Constant (.str a) 0 sp, .FormattedValue (.Name "MOST_SIZE" ip) (-1) none fp, .Constant (.str b) 0 rp] jp] env)).any (·.1)=false:=rfl
 refine A7 (Sy N.k ?_)
 refine A7 (Sv P N hA fun h' e dd t' tk k1 k2 k3=>A7 (Ay (wpAny_point (A9 ?_))))
 exact bA e t' dd rfl (N.k.keeps k1) k3 (hq h' e dd t' tk k1 k2 k3)
end
end
section
open Classical
def ez (F:List Addr)(e:Addr)(tb:Ac)(h h':Heap):Prop:=
 (∀b o,b∉F→b≠e→tb≠ .ref b→h.get? b=some o→h'.get? b=some o)∧∀b o,b∈F→h.get? b=some o→∃sl,h'.get? b=some {o with slots:=sl}
def Xm (h:Heap)(e:Addr)(tb:Ac):Prop:=tb= .none∨∃T oT ts,tb= .ref T∧T≠e∧h.get? T=some oT∧oT.data= .fields ts∧ts[3]? =some .none
abbrev frames (l:List Env):List Addr:=l.filterMap (·.frame)
section
variable {M:Model}{A:B2}{E:Ac→Ad→Prop}{s:Ad}{base:Heap}{env:Env}{outer:List Env}{L e t dd:Addr}
theorem MV {tb head:Ac}{hadNext:Bool}{Q:Unit→Ad→Prop}(hfr:A.frames=some (env::outer))(hl:s.heap.FunFrames base (env::outer))(hf:env.frame=some L)
  (he:s.heap.get? e=some (E6 t tb (some dd)))
  (h:∀h' T,Xm h' e (.ref T)→s.heap.get? T=none→h'.get? e=some (E6 t (.ref T) (some dd))→ez (frames (env::outer)) e .none s.heap h'→Q () {s with heap:=h'}):
  wpAny M A (do let a←frameOf env;let pl←entryPlaceOf L hadNext;let b←EntryCells.newEntry head a .none (rawInt L) .none pl;setField (.ref e) 1 b) (fun uu s'=>wpAny M A (setFlight (.ref e) none) Q E s') E s:=by
 have nf:∀b,b∈frames (env::outer)→b≠e∧∃o,s.heap.get? b=some o:=fun b hb=>by
  refine Aw (hl.mem hb) fun uu zr=>?_;refine AB zr fun o ho hn=>?_;clear zr
  refine⟨fun z=>?_,o,ho⟩
  rw[z,he] at ho
  replace ho:=Ai ho;subst ho
  exact hn _ rfl
 have hene:e∉frames (env::outer):=fun hm=>(nf e hm).1 rfl
 refine A7 (wpAny_frameOf_fun hfr hl hf fun h₁ hs₁=>?_)
 refine A7 (wpAny_entryPlaceOf fun pl hpl=>?_)
 refine A7 (Bb ?_ (hpl.sizeOk5 _ _ _ _ _))
 have he₁:h₁.get? e=some (E6 t tb (some dd)):=(hs₁.2.1 e hene).trans he
 generalize hO:({cls:= .type "traceback",dict:=none,data:= .fields ([head, .ref L, .none,rawInt L, .none]++(if pl.isEmpty then Cw 6 Bl else pl)).toArray}:Obj)=OT
 have hOd:∃ts,OT.data= .fields ts∧3<ts.size:=⟨_,by rw[←hO];rfl,by simp only[AE,AC,AQ,Gg];exact(Al [_] 0x444447555555431850)⟩
 refine AB hOd fun ts hts hsz=>?_;clear hOd
 have hOf:OT.isFreed=false:=BB hts
 have he₂:=Aj (h:=h₁) OT he₁
 have hTe:h₁.objs.size≠e:=Cc (Ax he₁)
 refine Bv he₂ rfl (show 1<6 by decide) ?_
 have he₃:((h₁.push OT).update e (Bu (·.setIfInBounds 1 (.ref h₁.objs.size)))).get? e=some (E6 t (.ref h₁.objs.size) (some dd)):=AK _ he₂ rfl
 have hT₃:((h₁.push OT).update e (Bu (·.setIfInBounds 1 (.ref h₁.objs.size)))).get? h₁.objs.size=some OT:=(B0 _ _ (Ck hTe)).trans (Ar h₁ hOf)
 have keep:∀b o,b≠e→h₁.get? b=some o→((h₁.push OT).update e (Bu (·.setIfInBounds 1 (.ref h₁.objs.size)))).get? b=some o:=fun b o hbe hb=>
  (B0 _ _ (Ck hbe)).trans (Aj _ hb)
 generalize ((h₁.push OT).update e (Bu (·.setIfInBounds 1 (.ref h₁.objs.size))))=h₃ at he₃ hT₃ keep ⊢
 refine A7 (C4 he₃ rfl (x:= .ref h₁.objs.size) rfl ?_)
 rw[if_pos (show(BY h₁.objs.size != Bl)=true from by simp)]
 refine Bv hT₃ hts hsz (h _ h₁.objs.size ?_ ?_ ?_ ?_)
 ·refine .inr ⟨_,_,_,rfl,hTe,AK _ hT₃ (BB (Ba hts _)),Ba hts _,?_⟩
  simp[hsz]
 ·exact Dj (by rewrite[hs₁.1];exact Ak _)
 ·rw[B0 _ _ hTe]
  exact he₃
 ·refine⟨fun b o hbF hbe uu hb=>?_,fun b o hbF hb=>?_⟩
  ·have hb₁:h₁.get? b=some o:=(hs₁.2.1 b hbF).trans hb
   rw[B0 _ _ (Ck (BL (Ax hb₁)))]
   exact keep b o hbe hb₁
  ·refine AI (hs₁.2.2 b o hb) fun sl hs=>?_
   refine⟨sl,?_⟩
   rw[B0 _ _ (Ck (BL (Ax hs)))]
   exact keep b _ (nf b hbF).1 hs
theorem Rn {tb:Ac}{Q:Unit→Ad→Prop}(hfr:A.frames=some (env::outer))(hl:s.heap.FunFrames base (env::outer))(hf:env.frame=some L)
  (he:s.heap.get? e=some (E6 t tb (some dd)))(htb:Xm s.heap e tb)
  (h:∀h' T,Xm h' e (.ref T)→s.heap.get? T=none→h'.get? e=some (E6 t (.ref T) (some dd))→ez (frames (env::outer)) e tb s.heap h'→Q () {s with heap:=h'}):
  wpAny M A (noteFrame (.ref e) env) (fun uu s'=>wpAny M A (setFlight (.ref e) none) Q E s') E s:=by
 unfold noteFrame
 simp only[hf]
 refine A7 (C4 he rfl (x:=tb) rfl ?_)
 focus(revert htb;refine fun zo=>Ap zo (fun z0=>?_) fun z0=>?_;rotate_left;clear zo;refine Ux z0 fun T oT ts z3 hTe hT hdT h3=>?_;clear z0;subst z3;rotate_right;clear zo;subst z0)
 ·rw[if_neg (by decide)]
  exact MV hfr hl hf he h
 ·rw[if_pos (show(BY T != Bl)=true from by simp)]
  refine A7 (C4 hT hdT h3 ?_)
  rw[if_neg (show¬((Bl == rawInt L)=true) from by simp[rawInt])]
  have hsz:=(D5.mp h3).1
  refine A7 (Bv hT hdT hsz ?_)
  have other:∀b,b≠T→(s.heap.update T (Bu (·.setIfInBounds 3 Bl))).get? b=s.heap.get? b:=fun b hb=>B0 _ _ (Ck hb)
  have nT:∀b o,s.heap.get? b=some o→(∀vs,o.data≠ .fields vs)→b≠T:=fun b o hb hnf q=>by
   rw[q,hT] at hb;injection hb with hb;subst hb;exact hnf ts hdT
  refine MV hfr (hl.of_keeps fun b o hb hnf=>⟨o,(other b (nT b o hb hnf)).trans hb,rfl⟩) hf ((other e (Ck hTe)).trans he) fun h' T' k1 k2 k3 k4=>h h' T' k1 ?_ k3 ⟨fun b o hbF hbe hbT hb=>?_,fun b o hbF hb=>?_⟩
  ·by_cases z:T'=T
   ·subst z
    have:=AK (Bu (·.setIfInBounds 3 Bl)) hT (BB (Ba hdT _))
    rw[this] at k2
    exact HJ k2
   ·rw[←other T' z];exact k2
  ·exact k4.1 b o hbF hbe nofun ((other b fun z=>hbT (by rw[z];rfl)).trans hb)
  ·refine k4.2 b o hbF ((other b fun z=>?_).trans hb)
   refine Aw (hl.mem hbF) fun uu zr=>?_;refine AB zr fun o' ho' hn=>?_;clear zr
   rw[z,hT] at ho'
   replace ho':=Ai ho';subst ho'
   exact hn _ hdT
end
end
section
open Classical
def LK (h:Heap)(H:AH)(s:Ad)(F:List Env):Prop:=
 ∀env∈F,env.scope.kind≠ .module∧∃L o,env.frame=some L∧h.get? L=none∧H L=none∧s.heap.get? L=some o∧∀vs,o.data≠ .fields vs
structure Thrown (X:Ctx)(F:List Env)(h:Heap)(H:AH)(s:Ad)(e:Addr)(s':Ad):Prop where
 own:Own X h H s'
 fr:∀b∈frames F,∀o,s.heap.get? b=some o→∃sl,s'.heap.get? b=some {o with slots:=sl}
 exc:∃t dd tb,s'.heap.get? e=some (E6 t tb (some dd))∧Xm s'.heap e tb∧(∀T,tb= .ref T→h.get? T=none∧H T=none)∧h.get? e=none∧H e=none
section
variable {X:Ctx}{F:List Env}{h:Heap}{H:AH}{s s' s₀:Ad}{e:Addr}{env:Env}
theorem LK.fun (f:LK h H s F):s.heap.FunFrames h F:=by
 induction F with
 |nil=>trivial
 |cons a F ih=>
  refine Aw (f a (Ab ..)) fun h1 zr=>?_;refine L8 zr fun L o h2 h3 h4 h5 h6=>?_;clear zr
  exact⟨h1,⟨L,o,h2,h3,h5,h6⟩,ih fun b hb=>f b (Af _ hb)⟩
theorem LK.mem (f:LK h H s F){b:Addr}(hb:b∈frames F):h.get? b=none∧H b=none∧∃o,s.heap.get? b=some o∧∀vs,o.data≠ .fields vs:=by
 refine AB (Co.mp hb) fun a ha e=>?_
 refine Aw (f a ha) fun h1 zr=>?_;refine L8 zr fun L o h2 h3 h4 h5 h6=>?_;clear zr
 rw[e] at h2
 replace h2:=Ai h2;subst h2
 exact⟨h3,h4,o,h5,h6⟩
theorem LK.keeps (f:LK h H s F)(k:∀b∈frames F,∀o,s.heap.get? b=some o→∃sl,s'.heap.get? b=some {o with slots:=sl}):LK h H s' F:=by
 intro a ha
 refine Aw (f a ha) fun h1 zr=>?_;refine L8 zr fun L o h2 h3 h4 h5 h6=>?_;clear zr
 refine AI (k L (Co.mpr ⟨a,ha,h2⟩) o h5) fun sl q=>?_
 exact⟨h1,L,_,h2,h3,h4,q,h6⟩
theorem Thrown.noted (t:Thrown X F h H s e s')(f:LK h H s F)(xi:X.In h){M:Model}{A:B2}{E:Ac→Ad→Prop}{Q:Unit→Ad→Prop}{outer:List Env}{L:Addr}(ef:F=env::outer)(hfr:A.frames=some F)(hf:env.frame=some L)
  (k:∀s'',Thrown X F h H s e s''→(∃t dd T,s''.heap.get? e=some (E6 t (.ref T) (some dd)))→Q () s''):wpAny M A (noteFrame (.ref e) env) (fun uu s2=>wpAny M A (setFlight (.ref e) none) Q E s2) E s':=by
 subst ef
 rcases t.exc with⟨ti,dd,tb,he,htb,hnb,hn,hHn⟩
 have f':=f.keeps t.fr
 have ne:∀b∈frames (env::outer),b≠e∧tb≠ .ref b:=fun b hb=>by
  refine Aw (f'.mem hb) fun uu zr=>?_;refine Aw zr fun uu zr=>?_;refine AB zr fun o ho hd=>?_;clear zr
  refine⟨fun z=>?_,fun z=>?_⟩
  ·rw[z,he] at ho;replace ho:=Ai ho;subst ho;exact hd _ rfl
  ·focus(revert htb;refine fun zo=>Ap zo (fun q=>?_) fun z0=>?_;rotate_left;clear zo;refine Ux z0 fun T oT ts q uu hT hdT uu=>?_;clear z0;rotate_right;clear zo)
   ·rw[q] at z;cases z
   ·rw[q] at z
    cases z
    rw[hT] at ho
    replace ho:=Ai ho;subst ho
    exact hd _ hdT
 refine Rn hfr f'.fun hf he htb fun h' T k1 k2 k3 k4=>?_
 have kk:∀b o,b∉frames (env::outer)→b≠e→tb≠ .ref b→s'.heap.get? b=some o→h'.get? b=some o:=k4.1
 have hN:∀b o,h.get? b=some o→b∉frames (env::outer)∧b≠e∧tb≠ .ref b:=fun b o hb=>by
  refine⟨fun z=>?_,fun z=>?_,fun z=>?_⟩
  ·rw[(f.mem z).1] at hb;exact CC hb
  ·rw[z,hn] at hb;exact CC hb
  ·rw[(hnb b z).1] at hb;exact CC hb
 have hC:∀b po,H b=some po→b∉frames (env::outer)∧b≠e∧tb≠ .ref b:=fun b o hb=>by
  refine⟨fun z=>?_,fun z=>?_,fun z=>?_⟩
  ·rw[(f.mem z).2.1] at hb;exact CC hb
  ·rw[z,hHn] at hb;exact CC hb
  ·rw[(hnb b z).2] at hb;exact CC hb
 have kp:BH h h':=fun b o hb=>by
  refine DF (hN b o hb) fun n1 n2 n3=>?_
  exact kk b o n1 n2 n3 (t.own.keep b o hb)
 refine k _ ⟨⟨kp,fun a po ha=>?_,t.own.gens,t.own.os,?_,t.own.hi⟩,fun b hb o ho=>?_,ti,dd, .ref T,k3,k1,fun T' q=>?_,hn,hHn⟩ ⟨ti,dd,T,k3⟩
 ·refine DF (hC a po ha) fun n1 n2 n3=>?_
  refine Aw (t.own.cell a po ha) fun q1 zr=>?_;refine AB zr fun o q2 q3=>?_;clear zr
  exact⟨q1,o,kk a o n1 n2 n3 q2,q3⟩
 ·rcases xi.lo with⟨a,o,l,g⟩
  exact AU (AJ l (Ax (kp _ _ g)))
 ·refine AI (t.fr b hb o ho) fun sl q=>?_
  refine AI (k4.2 b _ hb q) fun sl' q'=>?_
  exact⟨sl',q'⟩
 ·cases q
  refine⟨?_,?_⟩
  ·cases z:h.get? T with
   |none=>rfl
   |some o=>have:=t.own.keep _ _ z;rw[k2] at this;exact CC this
  ·cases z:H T with
   |none=>rfl
   |some po=>refine Aw (t.own.cell _ _ z) fun uu zr=>?_;refine AB zr fun o q2 uu=>?_;clear zr;rw[k2] at q2;exact CC q2
theorem Thrown.left (t:Thrown X F h H s e s')(f:LK h H s F)(xi:X.In h){M:Model}{A:B2}{E:Ac→Ad→Prop}{Q:Unit→Ad→Prop}{outer:List Env}{L:Addr}(ef:F=env::outer)(hfr:A.frames=some F)(hf:env.frame=some L)
  (k:∀s'',Thrown X F h H s e s''→(∃t dd T,s''.heap.get? e=some (E6 t (.ref T) (some dd)))→Q () s''):wpAny M A (leaving env (.ref e)) Q E s':=A7 (t.noted f xi ef hfr hf k)
def MA (X:Ctx)(d:Nat)(f:Addr)(ps:List PV)(H:AH):Prop:=
 ∀(h:Heap) (s:Ad) (vs:List Ac) (A:B2) (R:Result→Ad→Prop) (F:List Env),X.In h→Own X h H s→AG h ps vs→Lh X d A→A.frames=some F→LK h H s F→
  (∀e s',Thrown X F h H s e s'→R (.error (.ref e)) s')→codeAny (model X.prog X.w) A (.call (.ref f) ⟨vs,[]⟩) R s
def To (X:Ctx)(d:Nat)(body:List Stmt)(sc:SC)(m:LM)(H:AH):Prop:=
 ∀(h:Heap) (env:Env) (s:Ad) (A:B2) (post:Flow→Ad→Prop) (E:Ac→Ad→Prop) (F:List Env),X.In h→ScOk sc env true→St X h env true [] m H s→Lh X d A→A.frames=some (env::F)→LK h H s (env::F)→
  (∀e s',Thrown X (env::F) h H s e s'→E (.ref e) s')→wpAny (model X.prog X.w) A (execs body env) post E s
end
section
variable {X:Ctx}{d:Nat}{H:AH}{name qual:Str}{params:Arguments}{body:List Stmt}{scope:Scope}{dV kV doc pm cdv ct oc:Ac}{an od:Option Addr}{osl:Array (Option Ac)}{f:Addr}{ps:List PV}
theorem Xn {names:List Str}(ho:X.K.lookup f=some ⟨oc,od, .func (fnOf name qual params body scope dV kV doc pm an cdv ct),osl⟩)(hcd:codeIn X.K cdv qual=true)
  (hbind:∀vals:List Ac,vals.length=ps.length→bindArgs (fnOf name qual params body scope dV kV doc pm an cdv ct) ⟨vals,[]⟩=pure (names.zip vals))(hnd:names.Nodup)
  (hkn:∀x∈names,kd x scope.names=some .local∨kd x scope.names=some .cell)(hfree:Mo scope.names=true)
  (hco:scope.isCoroutine=false)(hgen:scope.isGenerator=false)(hk:scope.kind= .function)
  (v:To X d body scope.names (RZ scope.names (names.zip ps)) H):MA X (d+1) f ps H:=by
 intro h s vals A R F xi O r ok hfr fo P
 have z:=r.len
 have hr:A.depth<recursionLimit:=by have:=ok.1;have:recursionLimit=1000:=rfl;exact(Al [_,_,_] 0x140503e838112384384250502) ‹_› this
 refine KI (fd:=fnOf name qual params body scope dV kV doc pm an cdv ct) hr (O.keep _ _ (xi.k _ _ ho)) rfl (xi.lim.keeps O.keep) (OL (xi.k.keeps O.keep) hcd) rfl (hbind vals z.symm) rfl
  (fun x hx=>?_) (fun s₁ C=>?_) hco hgen hk
 ·refine Ap (hkn x.1 (Na hx).1) (fun q=>?_) fun q=>?_
  ·exact .inl (Eg.trans q)
  ·refine .inr ⟨Eg.trans q,?_⟩
   refine AI (EL (n:=s.heap.objs.size+1) (acc:=[]) (Hv q)) fun c e=>?_
   rw[e];rfl
 ·generalize hE:callEnvC (fnOf name qual params body scope dV kV doc pm an cdv ct) s.heap.objs.size f=env at C ⊢
  have eL:env.locals=s.heap.objs.size:=by rw[←hE];rfl
  have eF:env.frame=some s.heap.objs.size:=by rw[←hE];rfl
  have eS:env.scope=scope:=by rw[←hE];rfl
  have eC:env.cells=cellsFrom (s.heap.objs.size+1) scope.names []:=by rw[←hE];rfl
  have eK:∀x,env.kindOf x=kd x scope.names:=fun x=>by refine(?_:Hx x env.scope.names=_);rw[eS];exact Eg
  have none_of:∀a,s.heap.objs.size≤a→h.get? a=none∧H a=none:=fun a ha=>⟨by
    cases z:h.get? a with
    |none=>rfl
    |some y=>exact absurd (Ax (O.keep _ _ z)) (Dv.mpr ha),by
    cases z:H a with
    |none=>rfl
    |some y=>refine Aw (O.cell _ _ z) fun uu zr=>?_;refine AB zr fun o' g' uu=>?_;clear zr;exact absurd (Ax g') (Dv.mpr ha)⟩
  have O1:Own X h H s₁:=by
   rcases C.toInCall.same with⟨h',tk,rfl⟩
   exact(O.grown xi (s':={s with heap:=h'}) C.toInCall.keep rfl rfl).tok
  have so:ScOk scope.names env true:=⟨fun x e=>(eK x).trans e,fun x e=>⟨rfl,(eK x).trans e⟩,fun x e=> .inr ((eK x).trans e),fun x e=>(eK x).trans e,fun x e=>by
   revert e;refine fun zo=>Ap zo (fun e=>?_) (fun e=>?_)<;>clear zo
   ·rw[eC];exact EL (Hv e)
   ·exact absurd e (Eh hfree)⟩
  have S:St X h env true [] (RZ scope.names (names.zip ps)) H s₁:=by
   refine⟨O1,by rw[eS];exact hk,by rw[←hE];rfl,by rw[←hE];rfl,⟨_,C.toInCall.ns,fun x v e kx=>?_⟩,by rw[eL];exact none_of _ (Ak _),fun x v e kx=>?_,fun uu x kx=>?_,fun uu hq=>nomatch hq⟩
   ·exact Mq kx hnd r (Mp e)
   ·revert kx;refine fun zo=>Ap zo (fun kx=>?_) (fun kx=>?_)<;>clear zo
    ·refine AB (Mr (kf:=env.kindOf) (m:=fun uu=>none) kx hnd r (Mp e)) fun c e1 r1=>?_
     refine AI (so.clk x (.inl ((eK x).symm.trans kx))) fun a ea=>?_
     exact FQ a c ea (by rw[←e1];exact C.cell x a ea) r1
    ·exact absurd ((eK x).symm.trans kx) (Eh hfree)
   ·refine AI (so.clk x (.inl ((eK x).symm.trans kx))) fun a ea=>?_
    have hm:=mem_of_lookup ea
    have ab:=C.above x a hm
    have le:s.heap.objs.size≤a:=by rw[eL] at ab;exact AU ab
    exact Ic a _ ea (C.cell x a ea) ((none_of a le).1) ((none_of a le).2) (Cc ab) (fun y hy ky l2=>hy (name_of_addr C.apart (mem_of_lookup l2) hm)) (fun uu hq=>nomatch hq)
  have fo1:LK h H s₁ (env::F):=by
   intro a ha
   refine Ap (Aq.mp ha) (fun z0=>?_) fun ha=>?_;subst z0
   ·rcases C.toInCall.ns with⟨o,es,ep,g,hd,_⟩
    rw[eL] at g
    exact⟨by rw[eS,hk];exact nofun,_,o,eF,(none_of _ (Ak _)).1,(none_of _ (Ak _)).2,g,fun vs q=>by rw[hd] at q;cases q⟩
   ·refine Aw (fo a ha) fun h1 zr=>?_;refine L8 zr fun L o h2 h3 h4 h5 h6=>?_;clear zr
    exact⟨h1,L,o,h2,h3,h4,C.toInCall.keep _ _ h5,h6⟩
  refine v h env s₁ _ _ _ F xi so S ⟨by have:=ok.1;refine(?_:A.depth+1+d≤900);exact(Al [_,_] 0x38438140550384384150502) this,by have:=ok.2.1;refine(?_:A.units+3+20*d≤9000);exact(Al [_,_] 0x23284811429318055023284841514290502) this,ok.2.2⟩ (Jy hfr) fo1 fun e s' t=>?_
  refine t.left fo1 xi rfl (Jy hfr) eF fun s'' t' uu=>?_
  refine P e s'' ⟨t'.own,fun b hb o ho=>t'.fr b ?_ o (C.toInCall.keep _ _ ho),t'.exc⟩
  refine(?_:b∈List.filterMap _ (env::F))
  rw[BE,eF]
  exact Af _ hb
end
end
section
open Classical
section
variable {X:Ctx}{d:Nat}{h:Heap}{env:Env}{wr:Bool}{pv:List (Addr×Obj)}{m:LM}{H:AH}{s:Ad}{sc:SC}
theorem MB (S:St X h env wr pv m H s){x:Str}{p:PV}(e:lk x m=some p)(k:env.kindOf x=some .local)(hd:(x == ("__debug__":Str))=false):
  ∃v,AP h p v∧∀(A:B2) (E:Ac→Ad→Prop) (Q:Ac→Ad→Prop) (pos:Pos),Q v s→wpAny (model X.prog X.w) A (eval (.Name x pos) env) Q E s:=by
 rcases S.ns with⟨mc,ns,r⟩
 refine AB (r x p e k) fun c e1 r1=>?_
 exact⟨c,r1,fun A E Q pos q=>FW (CK S.kind k ns e1 q) hd⟩
theorem XV {o:Expr}{name:Str}{ap cp:Pos}{es:List Expr}(hp:GA o=true)(hf:Zi es=true)(hl:(ap.endLine == cp.line)=true){f:Addr}(hkp:keepIn X.K (.ref f)=true){A:B2}{E:Ac→Ad→Prop}{post:Ac→Ad→Prop}
  (v:wpAny (model X.prog X.w) A (eval o env) (fun ov s1=>∀pl,wpAny (model X.prog X.w) A (getMethod ov name pl) (fun fx s2=>fx=(.ref f,[ov])∧
   wpAny (model X.prog X.w) A (spliced (backTo cp (starEach es env))) (fun vs s3=>X.K.In s3.heap∧codeAny (model X.prog X.w) A (.call (.ref f) ⟨ov::vs,[]⟩) (fun r s4=>match r with| .ok _=>False| .error e=>E e s4) s3) E s2) E s1) E s):
  wpAny (model X.prog X.w) A (eval (.Call (.Attribute o name ap) es [] cp) env) post E s:=by
 rewrite[arm_eval_Call];rw[Kw hp]
 refine A7 (Dc v (fun ov s1 q1=>?_) fun uu uu x=>x)
 refine A7 (B8 ?_)
 unfold methodCall
 rw[R0 hf]
 refine A7 (Ay ?_)
 refine(?_:wpAny _ _ (getMethod ov _ _) _ _ _)
 refine Dc (q1 _) (fun fx s2 q2=>?_) fun uu uu x=>x
 revert q2;refine fun zq=>Aw zq fun z0 q2=>?_;clear zq;subst z0
 refine A7 (Ek (T0 hl) ?_)
 refine M_ (P:=fun g=>X.K.In g) (by rw[NZ (Ee hf).1];rfl) (fun g x=>keeps_K hkp g x) (Lx (Ee hf).1 ?_)
 refine Dc q2 (fun vs s3 q3=>⟨q3.1,IM (LY q3.2 fun r s4 q4=>?_)⟩) fun uu uu x=>x
 induction r using Except.casesOn with
 |ok fl=>exact q4.elim
 |error e=>exact q4
end
section
variable {X:Ctx}{d:Nat}{sc:SC}{m:LM}{H:AH}
theorem Uq {self name size:Str}{ap cp pos p1 p2:Pos}{rest:List Stmt}{C a dd f:Addr}{es:List (PV×PV)}{p:PV}(e1:lk self m=some (.inst C a dd))(e2:lk size m=some p)(k1:kd self sc=some .local)(k2:kd size sc=some .local)
  (d1:(self == ("__debug__":Str))=false)(d2:(size == ("__debug__":Str))=false)(hl:(ap.endLine == cp.line)=true)(hkp:keepIn X.K (.ref f)=true)(hm:X.meth C name=some f)(hd:H dd=some (.attrs es))(he:EH (.str name) es=none)
  (r:MA X d f [.inst C a dd,p] H):To X d (.Expr (.Call (.Attribute (.Name self p1) name ap) [.Name size p2] [] cp) pos::rest) sc m H:=by
 intro h env s A post E F xi so S ok hfr fo k
 refine D2 ?_
 rewrite[exec_Expr env _ pos (by unfold interactive;rw[S.kind];rfl) rfl]
 refine A7 (B8 (A7 ?_))
 refine AB (MB S e1 (so.loc _ k1) d1) fun v1 r1 n1=>?_
 refine AB (MB S e2 (so.loc _ k2) d2) fun v2 r2 n2=>?_
 refine XV (f:=f) rfl rfl hl hkp (n1 _ _ _ _ fun pl=>FB xi S.own r1 hm hd he ⟨rfl,?_⟩)
 refine spliced_more (n2 _ _ _ _ (spliced_none ⟨(xi.k.keeps S.own.keep),?_⟩))
 exact r h s [v1,v2] A _ (env::F) xi S.own (by refine AG.d ?_;exact⟨r1,r2,trivial⟩) ok hfr fo fun e s' t=>k e s' t
theorem Qn {size:Str}{np cpos pos jp sp ip fp rp p1 p2 p3 p4:Pos}{a b:Str}{orelse rest:List Stmt}{j:Int}(P:ProgOk X.prog)(hK:X.K=M5.heap_1 X.w.params)(hsb:X.mb "super"=some (.type "super"))(hex:X.exc=none)
  (hms:X.glob "MOST_SIZE"=some (.int 200))(e2:lk size m=some (.int j))(hj:200<j)(k2:kd size sc=some .local)(g1:kd "LimitFault" sc=some .globalImplicit)(g2:kd "MOST_SIZE" sc=some .globalImplicit)
  (d2:(size == ("__debug__":Str))=false)(ha:a.length≤1000)(hb:b.length≤1000):
  To X d (.If (.Compare (.Name size p1) [.Gt] [.Name "MOST_SIZE" p2] p3)
   [.Raise (some (.Call (.Name "LimitFault" np) [.JoinedStr [.Constant (.str a) 0 sp, .FormattedValue (.Name "MOST_SIZE" ip) (-1) none fp, .Constant (.str b) 0 rp] jp] [] cpos)) none pos] orelse p4::rest) sc m H:=by
 intro h env s A post E F xi so S ok hfr fo k
 have hdep:A.depth+30<recursionLimit:=by have:=ok.1;have:recursionLimit=1000:=rfl;exact(Al [_,_,_] 0x141e2805503e8381123843820502) ‹_› this
 have hh:A.handled=none:=by rewrite[ok.2.2];rw[hex];rfl
 refine D2 (wpAny_If ?_)
 refine AB (MB S e2 (so.loc _ k2) d2) fun v2 r2 n2=>?_
 rewrite[KJ]
 refine AI (Gp r2) fun t2 z1=>?_;subst z1
 have N:NsOk X.w X.mg X.mb s.heap:=⟨by rw[←hK];exact xi.k.keeps S.own.keep,xi.g.keeps S.own.keep,xi.b.keeps S.own.keep,xi.lim.keeps S.own.keep,hsb⟩
 have m2:X.mg "MOST_SIZE"=some (.int 200 413):=mg_of N.k N.g (by z_go)
 refine A7 (n2 _ _ _ _ ?_)
 rw[show markedEach [CmpOp.Gt] [Ib "MOST_SIZE" p2] (evalEach [Ib "MOST_SIZE" p2] env)=[eval (Ib "MOST_SIZE" p2) env] from Oc rfl]
 refine(?_:wpAny _ _ (do let rv←holding [.int j t2] (eval (Ib "MOST_SIZE" p2) env);standAt p3;let c←operate [.int j t2,rv] (compareOp .Gt (.int j t2) rv);holding [c] (truthy c)) _ _ _)
 refine A7 (Ay (CL S.kind (so.glob _ g2) (DZ (mg:=X.mg) (by rw[S.glo];exact N.g) m2 (A7 (B8 (A7 (IO (JB (Ay (Dk ?_)))))))) (by decide+kernel)))
 rw[decide_eq_true (show j>200 from hj),if_pos rfl]
 refine D2 ?_
 refine Rm P N hdep hh S.kind (so.glob _ g1) (so.glob _ g2) ha hb S.glo fun h' e dd t' tk q1 q2 q3=>?_
 refine k e _ ⟨(S.own.grown xi (s':={s with heap:=h'}) q1 rfl rfl).tok,fun b uu o ho=>⟨o.slots,q1 _ _ ho⟩,t',dd, .none,q3, .inl rfl,(fun T q=>by cases q),?_,?_⟩
 ·cases z:h.get? e with
  |none=>rfl
  |some o=>have:=S.own.keep _ _ z;rw[q2] at this;exact CC this
 ·cases z:H e with
  |none=>rfl
  |some po=>refine Aw (S.own.cell _ _ z) fun uu zr=>?_;refine AB zr fun o q4 uu=>?_;clear zr;rw[q2] at q4;exact CC q4
end
end
section
open Classical
def Ur (s:Ad)(H:AH)(env:Env):Heap:=without (Uv s H) fun a=>a=env.locals
theorem OA (s:Ad)(H:AH){env:Env}{a:Addr}(ne:a≠env.locals):(Ur s H env).get? a=(Uv s H).get? a:=CH _ (fun a=>a=env.locals) ne
section
variable {X:Ctx}{d:Nat}{h:Heap}{env:Env}{wr:Bool}{pv:List (Addr×Obj)}{m:LM}{H:AH}{s s':Ad}{e:Addr}
theorem St.toLaw (S:St X h env wr pv m H s):BH h (Ur s H env)∧Own X (Ur s H env) H s:=by
 have pl:∀a o,(a=env.locals)→(Uv s H).get? a=some o→DQ o:=fun a o y g=>by
  refine Aw (S.mineAt (.inl y)) fun Hn zr=>?_;refine Aw zr fun uu zr=>?_;refine AB zr fun o' g' p=>?_;clear zr
  have:=DS H Hn g'
  rw[this] at g;replace g:=Ai g;subst g;exact p
 refine⟨fun b o g=>?_,S.own.freeze.shrink pl⟩
 have ny:¬b=env.locals:=fun y=>by rw[y,S.nsO.1] at g;exact CC g
 exact(OA s H ny).trans (S.own.keepsFrz b o g)
theorem St.frOk (S:St X h env wr pv m H s)(hf:env.frame=some env.locals):LK (Ur s H env) H s [env]:=by
 intro a ha
 cases Ao.mp ha
 rcases S.ns with⟨mc,n,_⟩
 refine Qt (id n) fun o es ep g hd uu=>?_
 exact⟨by rw[S.kind];exact nofun,_,o,hf,CD _ _ rfl,S.nsO.2,g,fun vs q=>by rw[hd] at q;cases q⟩
theorem St.thrown (S:St X h env wr pv m H s)(xi:X.In h){f:Addr}{ps:List PV}{vs:List Ac}{A:B2}{R:Result→Ad→Prop}(r:MA X d f ps H)(hr:AG h ps vs)(ok:Lh X d A)(hf:env.frame=some env.locals)(hfr:A.frames=some [env])
  (k:∀e s',Thrown X [env] (Ur s H env) H s e s'→R (.error (.ref e)) s'):codeAny (model X.prog X.w) A (.call (.ref f) ⟨vs,[]⟩) R s:=by
 rcases S.toLaw with⟨kp,O⟩
 exact r _ s vs A R [env] (xi.keeps kp) O (hr.keeps kp) ok hfr (S.frOk hf) k
theorem St.back (S:St X h env wr pv m H s)(hf:env.frame=some env.locals)(t:Thrown X [env] (Ur s H env) H s e s'):
  ∃h6,BH h h6∧St X h6 env wr pv m H s'∧h6.get? e=s'.heap.get? e:=by
 rcases S.toLaw with⟨kp,O⟩
 have fo:=S.frOk hf
 rcases t.exc with⟨ti,dd,tb,he,htb,hnb,hn,hHn⟩
 have st:∀a o,H a=none→a≠env.locals→s.heap.get? a=some o→s'.heap.get? a=some o:=fun a o n ne g=>t.own.keep a o ((OA s H ne).trans (DS H n g))
 have hloc:∀o,s.heap.get? env.locals=some o→∃sl,s'.heap.get? env.locals=some {o with slots:=sl}:=t.fr env.locals (Co.mpr ⟨env,by exact Ab,hf⟩)
 have pl:∀a o,K1 env wr pv a→(Uv s' H).get? a=some o→DQ o:=fun a o y g=>by
  refine Aw (S.mineAt y) fun Hn zr=>?_;refine Aw zr fun uu zr=>?_;refine AB zr fun o' g' p=>?_;clear zr
  by_cases z:a=env.locals
  ·subst z
   refine AI (hloc o' g') fun sl q=>?_
   rw[DS H Hn q] at g
   replace g:=Ai g;subst g
   rcases S.ns with⟨mc,n,_⟩
   refine Qt (id n) fun o2 es ep g2 hd uu=>?_
   rw[g2] at g'
   replace g':=Ai g';subst g'
   refine⟨fun xs q=>?_,fun C d' q=>?_,fun vs q=>?_⟩<;>· have q:=congrArg OO q;dsimp only at q;rw[hd] at q;cases q
  ·rw[DS H Hn (st a o' Hn z g')] at g
   replace g:=Ai g;subst g
   exact p
 have nmine:¬K1 env wr pv e:=fun y=>by
  refine Aw (S.mineAt y) fun Hn zr=>?_;refine Aw zr fun uu zr=>?_;refine AB zr fun o' g' p=>?_;clear zr
  by_cases z:e=env.locals
  ·refine AI (hloc o' (z▸g')) fun sl q=>?_
   rw[←z,he] at q
   rcases S.ns with⟨mc,n,_⟩
   refine Qt (id n) fun o2 es ep g2 hd uu=>?_
   rw[z] at g'
   rw[g2] at g'
   replace g':=Ai g';subst g'
   have:=congrArg (fun o=>o.map OO) q
   simp only[By] at this
   rw[hd] at this
   cases this
  ·rw[OA s H z,DS H Hn g'] at hn
   exact HJ hn
 have kk:BH h (without (Uv s' H) (K1 env wr pv)):=fun b o g=>by
  have ny:¬K1 env wr pv b:=fun y=>by rw[(S.mineAt y).2.1] at g;exact CC g
  rw[CH _ _ ny]
  exact t.own.keepsFrz b o (kp b o g)
 refine⟨without (Uv s' H) (K1 env wr pv),kk,⟨t.own.freeze.shrink pl,S.kind,S.glo,S.bi,?_,?_,?_,?_,?_⟩,?_⟩
 ·rcases S.ns with⟨mc,n,r⟩
  refine Qt (id n) fun o es ep g d q=>?_
  refine AI (hloc o g) fun sl g'=>?_
  exact⟨mc,⟨_,es,ep,g',d,q⟩,fun x v e kx=>let⟨c,e1,r1⟩:=r x v e kx;⟨c,e1,AP.keeps kk _ r1⟩⟩
 ·exact⟨CD _ _ (.inl rfl),S.nsO.2⟩
 ·intro x v e kx
  refine Cv (S.cl x v e kx) fun c w l ic r=>?_
  refine AB (id ic) fun o g d=>?_
  have Hc:H c=none:=by
   cases q:H c with
   |none=>rfl
   |some po=>
    refine Aw (S.own.cell c po q) fun uu zr=>?_;refine AB zr fun o' g' r'=>?_;clear zr
    rw[g] at g'
    replace g':=Ai g';subst g'
    exfalso
    induction po using Mine.Internal.PO.casesOn with
    |list vs=>refine BT r' fun uu uu e' uu=>?_;clear r';rw[e'] at d;cases d
    |dict es n=>refine AB r' fun uu e' uu=>?_;clear r';rw[e'] at d;cases d
    |attrs es=>refine BT r' fun uu uu e' uu=>?_;clear r';rw[e'] at d;cases d
    |set vs=>refine M7 r' fun uu uu uu e' uu=>?_;clear r';rw[e'] at d;cases d
    |enum src=>refine M7 r' fun uu uu uu e' uu=>?_;clear r';rw[e'] at d;cases d
  have cne:c≠env.locals:=fun z=>by
   rcases S.ns with⟨mc,n,_⟩
   refine Qt (id n) fun o2 es ep g2 hd uu=>?_
   rw[z,g2] at g
   replace g:=Ai g;subst g
   rw[hd] at d
   cases d
  exact FQ c w l ⟨o,st _ _ Hc cne g,d⟩ (AP.keeps kk _ r)
 ·intro w x kx
  refine L9 (S.clO w x kx) fun c v₀ l ic hn Hn ne ap pa=>?_
  refine AB (id ic) fun o g d=>?_
  exact Ic c v₀ l ⟨o,st _ _ Hn ne g,d⟩ (CD _ _ (.inr (.inl ⟨w,x,kx,l⟩))) Hn ne ap pa
 ·intro q hq
  refine Eb (S.pvO q hq) fun g hn Hn ne p=>?_
  exact⟨st _ _ Hn ne g,CD _ _ (.inr (.inr ⟨q,hq,rfl⟩)),Hn,ne,p⟩
 ·rw[CH _ _ nmine,he]
  exact DS H hHn he
theorem Thrown.landed {F:List Env}(t:Thrown X F h H s e s')(fo:LK h H s F)(xi:X.In h){M:Model}{A:B2}{E:Ac→Ad→Prop}{Q:Unit→Ad→Prop}{ti dd T:Addr}(he:s'.heap.get? e=some (E6 ti (.ref T) (some dd)))
  (k:∀s'',Thrown X F h H s e s''→Q () s''):wpAny M A (setFlight (.ref e) none) Q E s':=by
 rcases t.exc with⟨ti',dd',tb,he',htb,hnb,hn,hHn⟩
 rw[he] at he'
 obtain ⟨rfl,rfl,rfl⟩:ti=ti'∧dd=dd'∧tb= .ref T:=by
  injection he' with he'
  injection he' with h1 h2 h3 h4
  injection h2 with h2
  injection h3 with h3
  simp at h3
  exact⟨h3.1,h2,h3.2.symm⟩
 refine Aw (hnb T rfl) fun hT HT=>?_
 focus(revert htb;refine fun zo=>Ap zo (fun q=>?_) fun z0=>?_;rotate_left;clear zo;refine Ux z0 fun T' oT ts q hTe gT hdT h3=>?_;clear z0;rotate_right;clear zo)
 ·cases q
 cases q
 have hsz:=(D5.mp h3).1
 have f':=fo.keeps t.fr
 have nF:T∉frames F:=fun z=>by
  refine Aw (f'.mem z) fun uu zr=>?_;refine Aw zr fun uu zr=>?_;refine AB zr fun o ho hd=>?_;clear zr
  rw[gT] at ho
  replace ho:=Ai ho;subst ho
  exact hd _ hdT
 refine wpAny_setFlight_none he rfl rfl gT hdT hsz (k _ ?_)
 have other:∀b,b≠T→(s'.heap.update T (Bu (·.setIfInBounds 3 Bl))).get? b=s'.heap.get? b:=fun b hb=>B0 _ _ (Ck hb)
 refine⟨t.own.other HT hT (Au ..),fun b hb o ho=>?_,ti,dd, .ref T,(other e (Ck hTe)).trans he, .inr ⟨T,_,_,rfl,hTe,AK _ gT (BB (Ba hdT _)),Ba hdT _,by simp[hsz]⟩,hnb,hn,hHn⟩
 refine AI (t.fr b hb o ho) fun sl g=>?_
 exact⟨sl,(other b fun z=>nF (z▸hb)).trans g⟩
end
end
section
open Classical
section
variable {X:Ctx}{d:Nat}{H:AH}{name qual:Str}{params:Arguments}{body:List Stmt}{scope:Scope}{dV kV doc pm cdv ct oc:Ac}{an od:Option Addr}{osl:Array (Option Ac)}{f:Addr}{ps:List PV}
theorem PH {K:Frag}(hK:X.K=K)(names:List Str)(ho:K.lookup f=some ⟨oc,od, .func (fnOf name qual params body scope dV kV doc pm an cdv ct),osl⟩)(hcd:codeIn K cdv qual=true)(hok:R7 names scope=true)
  (hbind:∀vals:List Ac,vals.length=ps.length→bindArgs (fnOf name qual params body scope dV kV doc pm an cdv ct) ⟨vals,[]⟩=pure (names.zip vals))
  (v:To X d body scope.names (RZ scope.names (names.zip ps)) H):MA X (d+1) f ps H:=by
 simp only[R7,D1,LL,Ia,IU,beq_iff_eq] at hok
 refine Aw hok fun z0 h6=>?_;clear hok;revert z0;refine fun zq=>Aw zq fun z0 h5=>?_;clear zq;revert z0;refine fun zq=>Aw zq fun z0 h4=>?_;clear zq;revert z0;refine fun zq=>Aw zq fun z0 h3=>?_;clear zq;refine Aw z0 fun h1 h2=>?_;clear z0
 subst hK
 exact Xn ho hcd hbind (Mt h1) h2 h3 h4 h5 h6 v
end
section
variable {X:Ctx}{d:Nat}{H:AH}
theorem Us (hx:XOk X)(P:ProgOk X.prog)(hsb:X.mb "super"=some (.type "super"))(hex:X.exc=none){p:PV}{j:Int}(hj:200<j):MA X (d+1) 211 [p, .int j] H:=by
 refine PH hx.K ["self","size"] (by z_go) (by z_go) (by decide+kernel) (by x_run) ?_
 exact Qn P hx.K hsb hex (hx.t.g _ _ rfl) (by z_go) hj (by decide+kernel) (by decide+kernel) (by decide+kernel) (by decide+kernel) (by decide+kernel) (by decide+kernel)
theorem Zd (hx:XOk X)(P:ProgOk X.prog)(hsb:X.mb "super"=some (.type "super"))(hex:X.exc=none){a dd:Addr}{p:PV}{es:List (PV×PV)}{j:Int}(hj:200<j)(hd:H dd=some (.attrs es))(he:EH (.str "renewed") es=none):MA X (d+2) 218 [.inst 273 a dd,p, .int j] H:=by
 refine PH hx.K ["self","c","size"] (by z_go) (by z_go) (by decide+kernel) (by x_run) ?_
 exact Uq (f:=211) (C:=273) (a:=a) (dd:=dd) (p:= .int j) (by z_go) (by z_go) (by decide+kernel) (by decide+kernel) (by decide+kernel) (by decide+kernel) rfl (by rw[hx.K];z_go) (hx.t.m _ _ _ rfl) hd he (Us hx P hsb hex hj)
end
end
section
open Classical
theorem aX {X:Ctx}{T:TB0}{d:Nat}(hx:XT X T){es:List Expr}{sc:SC}{m:LM}{H H':AH}{Q:QL}{c':C}{st':List Mine.Internal.Fr}(e:run T 300 (.Es es sc m) [.ol Q] H= .go c' st' H')(h:dc X d H' (ds X d st') c'):Ml X d es sc m H Q:=Kz hx e h
def aY (prog:Program)(w:World)(mg mb:Str→Option Ac)(os:OsState)(sa:Addr)(is:List Int)(b:List Stmt)(sc:Scope):Prop:=
 ∀(hne:b≠[]) (env:Env) (A:B2) (m:LM) (H:AH) (h:Heap) (s:Ad) (post:Flow→Ad→Prop) (E:Ac→Ad→Prop),(EN prog w mg mb os sa is none).In h→ScOk sc.names env true→St (EN prog w mg mb os sa is none) h env true [] m H s→
  Lh (EN prog w mg mb os sa is none) 40 A→A.frames=some [env]→env.frame=some env.locals→Sp sa m H→(∀s' v,BH h s'.heap→s'.os=os→s'.gens=#[]→v= .bool true→post (.ret v) s')→wpAny (model prog w) A (execs [b.getLast hne] env) post E s
theorem Ut {prog:Program}{w:World}{A:B2}{E:Ac→Ad→Prop}{s:Ad}{Q:Bool→Ad→Prop}{e t dd:Addr}{tb:Ac}(X:(KK w).In s.heap)(he:s.heap.get? e=some (E6 t tb (some dd)))(h:Q true s):wpAny (model prog w) A (excMatches (.ref e) (.ref 72)) Q E s:=
 have k:=Jm X 72 rfl
 OW [.c _, .c _, .c _, .c _, .c _] (An k (An k (An k (An he (An k h))))) (by z_go)
theorem Xo {prog:Program}{w:World}{mg mb:Str→Option Ac}{os:OsState}{sa:Addr}{is:List Int}(P:ProgOk prog)(hsb:mb "super"=some (.type "super")):
  ∃(b:List Stmt) (n:Scope),Mz (M5.heap_1 w.params) 522 b n∧aY prog w mg mb os sa is b n:=by
 refine W8 (K:=M5.heap_1 w.params) (f:=522) (by z_go) (fun b n=>aY prog w mg mb os sa is b n) ?_
 intro hne env A0 m H h s post E xi so S ok hfr hfe hp fin
 generalize hX:EN prog w mg mb os sa is none=X at xi S ok
 have hx:XOk X:=by rw[←hX];exact Z4
 have P':ProgOk X.prog:=by rw[←hX];exact P
 have hsb':X.mb "super"=some (.type "super"):=by rw[←hX];exact hsb
 have hex:X.exc=none:=by rw[←hX];rfl
 have hpr:model prog w=model X.prog X.w:=by rw[←hX];rfl
 rw[hpr]
 dsimp only[List.getLast]
 clear hne
 refine D2 (wpAny_Try_except (D2 ?_))
 rewrite[exec_Expr env _ _ (by unfold interactive;rw[S.kind];rfl) rfl]
 refine A7 (B8 (A7 ?_))
 refine AI hp fun L zr=>?_;clear hp;refine AI zr fun ss zr=>?_;refine AI zr fun mc zr=>?_;refine AI zr fun N zr=>?_;refine AI zr fun bx zr=>?_;refine AI zr fun rl zr=>?_;refine AI zr fun dd zr=>?_;refine AI zr fun kc zr=>?_;refine AI zr fun ca zr=>?_;refine AI zr fun lc zr=>?_;refine AI zr fun i1 zr=>?_;refine AI zr fun i2 zr=>?_;refine Tq zr fun mk z1 z2 z3 sit held hmk hmc hN=>?_;clear zr;subst z3
 refine XV (f:=218) rfl rfl rfl (by rw[hx.K];z_go) ?_
 refine LC _ 40 env true _ _ H (fun p H1=>p= .inst 273 ca dd∧H1=H) so ?_ h [] s A0 _ _ xi S ok fun ov s1 h1 p H1 k1 S1 r1 q1=>?_
 ·have A:=sit.at_
  k_one
 refine Aw q1 fun z0 z1=>?_;clear q1;subst z0;subst z1
 intro pl
 refine FB (xi.keeps k1) S1.own r1 (hx.t.m _ _ _ rfl) sit.c (by rw[←JG];rfl) ⟨rfl,?_⟩
 refine R5 _ 40 env true _ _ H1 _ (fun ps H2=>∃i j mk' N',ps=[B5 i, .int j]∧200<j∧mk'≠Dd ss∧Sit L ss mc N' bx rl dd kc mk' H2∧Held L ss bx rl dd kc lc (.list [B5 i1,B5 i2]) H2) so rfl ?_ h1 [] s1 A0 _ _ (xi.keeps k1) S1 ok fun vs s3 h3 ps H3 k3 S3 r3 q3=>?_
 ·refine aX hx.t (by exact rfl) ?_
  have A:=sit.at_
  refine go_hp hx.t held.h (by exact rfl) ?_
  z_run
  refine⟨by decide,by decide,B5 i1,rfl,?_⟩
  z_run
  refine(Im hx sit.box (many:=99) (by exact Aa ‹_› (by decide)) (by decide)).m3 fun r H7 hr bx7 k7=>?_
  z_run
  exact bE i1 _ mk (N+1) rfl (by x_go) hmk (sit.draw bx7 k7) (held.draw k7)
 refine XY q3.2 fun i j mk' N' z4 hj hmk' sit held=>?_;subst z4
 have xi3:=(xi.keeps k1).keeps k3
 refine⟨xi3.k.keeps S3.own.keep,?_⟩
 refine S3.thrown (d:=40) xi3 (Zd (d:=38) hx P' hsb' hex hj sit.c (by rw[←JG];rfl)) (by refine AG.d ?_;exact⟨AP.keeps k3 _ r1,r3⟩) ok hfe hfr fun e s4 t4=>?_
 refine(?_:wpAny (model X.prog X.w) A0 (noteFrame (.ref e) env) _ E s4)
 have fo3:=S3.frOk hfe
 have xiL:=xi3.keeps S3.toLaw.1
 refine t4.noted fo3 xiL rfl hfr hfe fun s5 t5 hq2=>?_
 refine XX hq2 fun ti dd5 T g5=>?_;clear hq2
 refine wpAny_handleBy_cons (codeAny_handlers_test ?_) (by intro q;cases q)
 have K5:(M5.heap_1 X.w.params).In s5.heap:=by rw[←hx.K];exact xiL.k.keeps t5.own.keep
 have G5:=xiL.g.keeps t5.own.keep
 refine CL S.kind (so.glob _ (by decide+kernel)) (DZ (mg:=X.mg) (by rw[S.glo];exact G5) (mg_of K5 G5 (by z_go)) ?_) (by decide+kernel)
 refine Ut K5 g5 ?_
 refine codeAny_handlers_suite (t5.landed fo3 xiL g5 fun s6 t6=>?_)
 refine CP (S3.back hfe t6) fun h6 k6 S6 e6=>?_
 rcases t6.exc with⟨ti6,dd6,tb6,g6,_⟩
 have xi6o:=(xi3.keeps k6)
 have kh:BH h h6:=(k1.trans k3).trans k6
 subst hX
 have hx':XOk (EN prog w mg mb os sa is (some e)):=Z4
 have xi6:(EN prog w mg mb os sa is (some e)).In h6:=⟨xi6o.k,xi6o.g,xi6o.b,xi6o.lim,xi6o.gl,xi6o.ls,fun a ea=>by replace ea:=Ai ea;subst ea;exact FQ _ _ (e6.trans g6) rfl rfl,xi6o.lo,xi6o.fd,xi6o.mt⟩
 have S6':St (EN prog w mg mb os sa is (some e)) h6 env true [] _ H3 s6:=⟨⟨S6.own.keep,S6.own.cell,S6.own.gens,S6.own.os,S6.own.lo,S6.own.hi⟩,S6.kind,S6.glo,S6.bi,S6.ns,S6.nsO,S6.cl,S6.clO,S6.pvO⟩
 have ok':Lh (EN prog w mg mb os sa is (some e)) 40 (A0.mark (some (.ref e))):=⟨ok.1,ok.2.1,rfl⟩
 refine T7 (X:=EN prog w mg mb os sa is (some e)) _ 40 env true _ _ H3 (fun f uu uu=>f= .ret (.bool true)) so ?_ h6 [] s6 _ _ _ xi6 S6' ok' fun fv s7 h7 fl m7 H7 k7 S7 r7 q7=>?_
 ·rename_i X0 xxi
  clear hx
  have hx:=hx'
  have A:=sit.at_
  k_one
  exact(W7 (d:=8) hx sit.ok (by exact Aa ‹_› (by decide)) (sit.pre hmk') sit.k).mono fun p H4 ⟨e1,uu⟩=>by rw[e1];z_run;rfl
 ·subst q7
  refine AB r7 fun wv z1 rw7=>?_;clear r7;subst z1
  exact fin s7 wv ((kh.trans k7).trans S7.own.keep) S7.own.os S7.own.gens (Lm rw7)
end
section
open Classical
theorem Ro {x:Str}:∀{r:LM},(r.all fun q=>q.2.isNone)=true→lk x r=none
 |[],_=>rfl
 |(y,none)::r,h=>by
  rw[F2];rewrite[Ro (r:=r) h]
  exact ite_self _
theorem Tp {x k:Str}{p v:PV}{r:LM}(h:(r.all fun q=>q.2.isNone)=true)(e:lk x ((k,some p)::r)=some v):k=x∧p=v:=by
 rw[F2,Ro h] at e
 split at e
 ·exact⟨‹_›,Ai e⟩
 ·exact nomatch e
theorem Ze {f:Fl}(h:f= .next):(Mine.Internal.Fl.casesOn f true false false fun uu=>false:Bool)=true:=h▸rfl
theorem Rp {X:Ctx}{d:Nat}{env:Env}{sc:SC}{P:LM→AH→Prop}{t:List Stmt}{post:Flow→Ad→Prop}{E:Ac→Ad→Prop}{A:B2}(so:ScOk sc env true)(ok:Lh X d A):∀(pre:List Stmt) (m:LM) (H:AH) (h:Heap) (s:Ad),NW X d pre sc m H (fun f m H=>f= .next∧P m H)→X.In h→St X h env true [] m H s→
  (∀m H h' s',P m H→BH h h'→St X h' env true [] m H s'→wpAny (model X.prog X.w) A (execs t env) post E s')→wpAny (model X.prog X.w) A (execs (pre++t) env) post E s
 |[],m,H,h,s,v,xi,S,k=>by
  have v:Fl.next= .next∧P m H:=v
  exact k m H h s v.2 (Bp h) S
 |a::pre,m,H,h,s,v,xi,S,k=>by
  have v:vS X d a sc m H (aw X d pre sc fun f m H=>f= .next∧P m H):=v
  rw[List.cons_append]
  refine D2 ((Vv _).1 a rfl d env true sc m H _ so v h [] s A E _ xi S ok fun f s1 h1 fl m1 H1 k1 S1 r1 q1=>?_)
  induction fl using Mine.Internal.Fl.casesOn with
  |next=>
   subst r1
   exact Rp so ok pre m1 H1 h1 s1 q1 (xi.keeps k1) S1 fun m H h' s' p k2 S2=>k m H h' s' p (k1.trans k2) S2
  |cont=>exact nomatch Ze q1.1
  |brk=>exact nomatch Ze q1.1
  |ret p=>exact nomatch Ze q1.1
theorem Uu {h:Heap}{vs:List Ac}{is:List Int}(i:IntsAre vs is):AG h (is.map .int) vs:=by
 induction i with
 |nil=>exact AG.n
 |cons n t x ih=>exact AG.d ⟨⟨t,rfl⟩,ih⟩
def Wm (q:Str×NameKind):Bool:=match q.2 with
 | .cell=>decide (q.1="box"∨q.1="heap")
 |_=>true
theorem Zf {prog:Program}{w:World}{mg mb:Str→Option Ac}{N:Nat}{defs:List DefItem}{consts:List (Str×PyData)}{objs:List (Str×(Obj→Prop))}{names:List Str}{s₁:Ad}{sa fa hc bc:Addr}{vs:List Ac}{is:List Int}{cd:Ac}{h₁:Heap}{tk₁:Nat}{body:List Stmt}{scope:Scope}{name:Str}{mloc:Str→Option Ac}{wb wh:Obj}{vh vb:Option Ac}{post:Flow→Ad→Prop}{E:Ac→Ad→Prop}
  (KX:(M5.heap_1 w.params).In s₁.heap)(GL:Glob N mg mb defs consts objs names s₁.heap)(hg:s₁.gens=#[])(hL:s₁.heap.IsList sa vs.toArray)(hI:IntsAre vs is){ds:List WData}(W:Well w.params s₁.heap (.ref sa) (.list ds))(hlen:¬(63:Int)<is.length)
  (F:PyProof.Rows.Fr s₁.heap s₁.heap.objs.size h₁ mloc)(N0:News s₁.heap s₁.heap.objs.size h₁ [(hc,wh),(bc,wb)])(hwh:wh.data= .cell vh)(hwb:wb.data= .cell vb)
  (hb:Mz (M5.heap_1 w.params) 522 body scope)(hm:mloc "script"=some (.ref sa))(hh:(envOfC name scope s₁.heap.objs.size fa cd).cells.lookup (A8 "heap")=some hc)(hbx:(envOfC name scope s₁.heap.objs.size fa cd).cells.lookup (A8 "box")=some bc)
  (hscB:(scope.names.all Wm)=true)(hf:Mo scope.names=true)(hk:scope.kind= .function)(hne:hc≠bc)
  (hmk:RZ scope.names [(A8 "script", .raw (.ref sa))]=[(A8 "script",some (PV.raw (BY sa))),(A8 "box",none),(A8 "heap",none),(A8 "counts",none),(A8 "leaves",none),(A8 "lap",none),(A8 "many",none)])
  (hP:∀s' v,BH s₁.heap s'.heap→s'.os=s₁.os→s'.gens=#[]→v= .bool true→post (.ret v) s')
  (hprog:ProgOk prog)
  (hbn:body≠[])(ok:Lh (EN prog w mg mb s₁.os sa is none) 40 (callerA.deeper (envOfC name scope s₁.heap.objs.size fa cd))):
  wpAny (model prog w) (callerA.deeper (envOfC name scope s₁.heap.objs.size fa cd)) (execs body (envOfC name scope s₁.heap.objs.size fa cd)) post E {heap:=h₁,gens:=s₁.gens,drawn:=s₁.drawn,toks:=tk₁,os:=s₁.os}:=by
 have hsc:∀x,kd x scope.names=some .cell→x="box"∨x="heap":=fun x e=>by
  have h1:=Ia.mp hscB _ (Hv e)
  simpa only[Wm,decide_eq_true_eq] using h1
 generalize hE:envOfC name scope s₁.heap.objs.size fa cd=env at*
 have eL:env.locals=s₁.heap.objs.size:=by rw[←hE];rfl
 have hfe:env.frame=some env.locals:=by rw[←hE];rfl
 have hfr:(callerA.deeper env).frames=some [env]:=rfl
 have eS:env.scope=scope:=by rw[←hE];rfl
 have eC:env.cells=cellsFrom (s₁.heap.objs.size+1) scope.names []:=by rw[←hE];rfl
 have eK:∀x,env.kindOf x=kd x scope.names:=fun x=>by refine(?_:Hx x env.scope.names=_);rw[eS];exact Eg
 have so:ScOk scope.names env true:=⟨fun x e=>(eK x).trans e,fun x e=>⟨rfl,(eK x).trans e⟩,fun x e=> .inr ((eK x).trans e),fun x e=>(eK x).trans e,fun x e=>by
  revert e;refine fun zo=>Ap zo (fun e=>?_) (fun e=>?_)<;>clear zo
  ·rw[eC];exact EL (Hv e)
  ·exact absurd e (Eh hf)⟩
 have hlen':is.length≤63:=by x_go
 have xi:(EN prog w mg mb s₁.os sa is none).In s₁.heap:=aT KX GL.g GL.b GL.builtins GL.nolimit (by
  refine AI hL fun o zr=>?_;clear hL;refine Aw zr fun h1 zr=>?_;refine Aw zr fun h2 zr=>?_;refine AI zr fun n h3=>?_;clear zr
  cases W with
  |@list _ vs' _ hg2 _=>
   rw[h1] at hg2
   injection hg2 with hg2
   subst hg2
   injection h3 with h3 h4
   have:vs'=vs:=by simpa using h3
   subst this
   exact Gn vs' 0 h1 (Uu hI)) (fun a e=>by exact CC e) (by
   have hl3:∃a o,4≤a∧(M5.heap_1 w.params).lookup a=some o:=⟨485,_,by decide,by z_go⟩
   refine BT hl3 fun a o h4 e=>?_;clear hl3
   exact Gn a o h4 (KX _ _ e))
 refine BT (Xi (X:=EN prog w mg mb s₁.os sa is none) (d:=0) Z4 (sa:=sa) (is:=is) rfl hlen') fun b n hd1 hbody=>?_
 refine Aw (Ov hb hd1) fun z0 z1=>?_;subst z0;subst z1
 have v:=hbody fun uu=>none
 have hsb:mb "super"=some (.type "super"):=(GL.builtins _ (by decide+kernel)).trans (by z_go)
 refine BT (Xo (prog:=prog) (w:=w) (mg:=mg) (mb:=mb) (os:=s₁.os) (sa:=sa) (is:=is) hprog hsb) fun b2 n2 hd2 htry=>?_
 refine Aw (Ov hb hd2) fun z0 z1=>?_;subst z0;subst z1
 have nh:=N0 (hc,wh) (by exact Ab)
 have nb:=N0 (bc,wb) (by simp)
 have S:St (EN prog w mg mb s₁.os sa is none) s₁.heap env true [] (RZ scope.names [(A8 "script", .raw (.ref sa))]) (fun uu=>none) {heap:=h₁,gens:=s₁.gens,drawn:=s₁.drawn,toks:=tk₁,os:=s₁.os}:=by
  have sz:s₁.heap.get? s₁.heap.objs.size=none:=by
   cases z:s₁.heap.get? s₁.heap.objs.size with
   |none=>rfl
   |some y=>exact absurd (Ax z) (BO _)
  have lo4:4≤h₁.objs.size:=by
   have e:∃o,(M5.heap_1 w.params).lookup 485=some o:=⟨_,by z_go⟩
   revert e;refine fun zq=>AI zq fun o e=>?_;clear zq
   exact AU (Gs (by decide:(4:Nat)<485) (Ax (F.keep _ _ (KX _ _ e))))
  refine⟨⟨F.keep,(fun a po e=>by exact CC e),hg,rfl,lo4,(fun a po e=>by exact CC e)⟩,by rw[eS];exact hk,by rw[←hE];rfl,by rw[←hE];rfl,⟨mloc,by rw[eL];exact F.ns,fun x v e kx=>?_⟩,by rw[eL];exact⟨sz,rfl⟩,fun x v e kx=>?_,fun uu x kx=>?_,(fun q hq=>by cases hq)⟩
  ·rw[hmk] at e
   refine Aw (Tp rfl e) fun z0 z1=>?_;subst z0;subst z1
   exact⟨_,hm,rfl⟩
  ·rw[hmk] at e
   refine Aw (Tp rfl e) fun z0 z1=>?_;subst z0;subst z1
   ·revert kx;refine fun zo=>Ap zo (fun kx=>?_) (fun kx=>?_)<;>clear zo
    ·refine Ap (hsc _ ((eK _).symm.trans kx)) (fun z=>?_) fun z=>?_
     ·exact absurd z (by decide+kernel)
     ·exact absurd z (by decide+kernel)
    ·exact absurd ((eK _).symm.trans kx) (Eh hf)
  ·focus(refine Ap (hsc _ ((eK x).symm.trans kx)) (fun z0=>?_) fun z0=>?_;rotate_left;subst z0;rotate_right;subst z0)
   ·refine Ic bc vb hbx ⟨wb,nb.1,hwb⟩ nb.2.2 rfl (by rw[eL];exact nb.2.1) (fun y hy ky e=>?_) (fun q hq=>by cases hq)
    revert ky;refine fun zo=>Ap zo (fun ky=>?_) (fun ky=>?_)<;>clear zo
    ·focus(refine Ap (hsc _ ((eK y).symm.trans ky)) (fun z0=>?_) fun z0=>?_;rotate_left;subst z0;rotate_right;subst z0)
     ·exact hy rfl
     ·rw[show env.cells.lookup (A8 "heap")=some hc from hh] at e
      exact hne (by injection e)
    ·exact absurd ((eK _).symm.trans ky) (Eh hf)
   ·refine Ic hc vh hh ⟨wh,nh.1,hwh⟩ nh.2.2 rfl (by rw[eL];exact nh.2.1) (fun y hy ky e=>?_) (fun q hq=>by cases hq)
    revert ky;refine fun zo=>Ap zo (fun ky=>?_) (fun ky=>?_)<;>clear zo
    ·focus(refine Ap (hsc _ ((eK y).symm.trans ky)) (fun z0=>?_) fun z0=>?_;rotate_left;subst z0;rotate_right;subst z0)
     ·rw[show env.cells.lookup (A8 "box")=some bc from hbx] at e
      exact hne (by injection e with e;exact e.symm)
     ·exact hy rfl
    ·exact absurd ((eK _).symm.trans ky) (Eh hf)
 rw[show body=body.dropLast++[body.getLast hbn] from(DM hbn).symm]
 exact Rp so ok _ _ _ _ _ v xi S fun m H h' s' p k S'=>htry hbn _ _ m H h' s' _ _ (xi.keeps k) so S' ok hfr hfe p fun s'' v k2=>hP s'' v (k.trans k2)
end
end Internal
open Internal
section
local macro_rules |`(command| $d:declaration)=>if mqor d.raw then pure (mqst (mqnc d.raw)) else Lean.Macro.throwUnsupported
def hd.tw10012880186880212623:=0
def hd.tw10024716035694756283:=0
def hd.tw10030107230732127627:=0
def hd.tw100483095206116625:=0
def hd.tw10112999265790385998:=0
def hd.tw1013155817946168525:=0
def hd.tw10170382586518783626:=0
def hd.tw10216474801634566288:=0
def hd.tw10246146449241189800:=0
def hd.tw10258999931320997221:=0
def hd.tw10292235466723388172:=0
def hd.tw1031319831176447121:=0
def hd.tw1033889070964956483:=0
def hd.tw10403243965636340961:=0
def hd.tw10404513684093684653:=0
def hd.tw10424393626065333798:=0
def hd.tw1043307727769730188:=0
def hd.tw10458740792067480800:=0
def hd.tw10471273241005507999:=0
def hd.tw10491609206876299696:=0
def hd.tw10507497572311344420:=0
def hd.tw10543509907540572799:=0
def hd.tw10583446816852156582:=0
def hd.tw10601615944963115059:=0
def hd.tw10603584201595350602:=0
def hd.tw10614716105012338702:=0
def hd.tw10727248033764811480:=0
def hd.tw10738003575532504788:=0
def hd.tw10743916045514856203:=0
def hd.tw10752148897807903841:=0
def hd.tw10784824025267889561:=0
def hd.tw10806950440038215891:=0
def hd.tw10847404155465417027:=0
def hd.tw10860895700388868024:=0
def hd.tw10879034167726328663:=0
def hd.tw1088296927520436173:=0
def hd.tw10949625832625181284:=0
def hd.tw11011131195910976488:=0
def hd.tw11032806212648032379:=0
def hd.tw11034497122203965937:=0
def hd.tw11054480109507316185:=0
def hd.tw11099374497321128792:=0
def hd.tw11117797201346649052:=0
def hd.tw11128854368766332075:=0
def hd.tw11136197038861592535:=0
def hd.tw11151547217846952531:=0
def hd.tw11162318198679636149:=0
def hd.tw1118553966540926140:=0
def hd.tw11210553801493137410:=0
def hd.tw11232374478483605306:=0
def hd.tw11249132867342737325:=0
def hd.tw11251137523995926341:=0
def hd.tw1129884963351977449:=0
def hd.tw11319892378374348655:=0
def hd.tw11375277706881905925:=0
def hd.tw11389486352061984695:=0
def hd.tw11402939732021071671:=0
def hd.tw11465210709893060100:=0
def hd.tw1147470481896660410:=0
def hd.tw11513968764499736323:=0
def hd.tw11551083187376567056:=0
def hd.tw11587034568685482758:=0
def hd.tw11631869004601391166:=0
def hd.tw11631947586910100387:=0
def hd.tw11652457597714270106:=0
def hd.tw11660266114150955751:=0
def hd.tw11709330566771433103:=0
def hd.tw11713075325732132258:=0
def hd.tw11715181796007767841:=0
def hd.tw11754176132448286083:=0
def hd.tw11778180911958503814:=0
def hd.tw11801993109049149486:=0
def hd.tw11893437276241958245:=0
def hd.tw11917015161858427179:=0
def hd.tw11953376511379268794:=0
def hd.tw12023040214023829324:=0
def hd.tw12058812876911547015:=0
def hd.tw12070051907170230399:=0
def hd.tw12070654863422294720:=0
def hd.tw12092154237167983948:=0
def hd.tw12112201142124510154:=0
def hd.tw12113243949977362033:=0
def hd.tw12127338746724423809:=0
def hd.tw12173100003817136821:=0
def hd.tw12213352325604421381:=0
def hd.tw1222794163293265305:=0
def hd.tw12239354291974867115:=0
def hd.tw12271959270614036898:=0
def hd.tw12393119488966705847:=0
def hd.tw12394076208661396346:=0
def hd.tw1241404454085649124:=0
def hd.tw12414669353804360901:=0
def hd.tw12459740579856956213:=0
def hd.tw12487502673411948298:=0
def hd.tw12575139184659369484:=0
def hd.tw12588582704262371052:=0
def hd.tw12591134339009171964:=0
def hd.tw12602439190401603521:=0
def hd.tw12611767792052310623:=0
def hd.tw12614811148066621264:=0
def hd.tw12631932088317031055:=0
def hd.tw12647368939536790636:=0
def hd.tw12744807935193187038:=0
def hd.tw12769127236821124696:=0
def hd.tw12832683148521936107:=0
def hd.tw12936449754285732098:=0
def hd.tw12949589719889679912:=0
def hd.tw1299046323782801668:=0
def hd.tw12994019391074448376:=0
def hd.tw13047593935725612058:=0
def hd.tw13066319289922817542:=0
def hd.tw13091844219050505765:=0
def hd.tw13181700845877081190:=0
def hd.tw13217225542625558698:=0
def hd.tw13220430256171166289:=0
def hd.tw1322998140766877354:=0
def hd.tw13267510147771200024:=0
def hd.tw13277076834127875243:=0
def hd.tw13280443560766958183:=0
def hd.tw13289513938125300765:=0
def hd.tw1331086792558400476:=0
def hd.tw13315533130655954831:=0
def hd.tw13321331477185743149:=0
def hd.tw13322179722446271537:=0
def hd.tw13342606739435360313:=0
def hd.tw13368278939475635651:=0
def hd.tw13372043803930879067:=0
def hd.tw13409441903868389331:=0
def hd.tw13466754112058979494:=0
def hd.tw13483081372092288885:=0
def hd.tw13518370688599389936:=0
def hd.tw13566260322249332789:=0
def hd.tw1359830224848277088:=0
def hd.tw13609717118414637909:=0
def hd.tw13638418597567726942:=0
def hd.tw13642289790063256904:=0
def hd.tw13770079208771991547:=0
def hd.tw13783031573616600631:=0
def hd.tw13790719812936386609:=0
def hd.tw13828106393651249627:=0
def hd.tw1382963296337349011:=0
def hd.tw13853544317457119560:=0
def hd.tw13855946660403688772:=0
def hd.tw13903934854276604550:=0
def hd.tw13929354066492186541:=0
def hd.tw14029546391885035639:=0
def hd.tw14060154772996877548:=0
def hd.tw14103535550066685397:=0
def hd.tw1413172679324656950:=0
def hd.tw1425423193147277237:=0
def hd.tw14294001040229213422:=0
def hd.tw14353793391729792155:=0
def hd.tw1439246655266547700:=0
def hd.tw14400467628812073631:=0
def hd.tw14457593812595234344:=0
def hd.tw14478148883734587675:=0
def hd.tw14492701947808656938:=0
def hd.tw1452849714261714991:=0
def hd.tw14560493823538711346:=0
def hd.tw14598272352848978880:=0
def hd.tw14620637471214046174:=0
def hd.tw14685462170515437407:=0
def hd.tw14705683404202351889:=0
def hd.tw14745743045033390146:=0
def hd.tw14768889098011018680:=0
def hd.tw14772383043592177042:=0
def hd.tw14852329139284432860:=0
def hd.tw14892549342360969540:=0
def hd.tw14896477498954680388:=0
def hd.tw14906377314874228009:=0
def hd.tw14955159897011116063:=0
def hd.tw14960593345356199642:=0
def hd.tw14980023328507725902:=0
def hd.tw15042006015671813226:=0
def hd.tw15043168886218598503:=0
def hd.tw1506431575118746342:=0
def hd.tw15083628210047938546:=0
def hd.tw15089522573102190283:=0
def hd.tw15103106377680225435:=0
def hd.tw15207398651663016943:=0
def hd.tw15213948185873263833:=0
def hd.tw15344866539931968096:=0
def hd.tw15367242080415987702:=0
def hd.tw15368132723985388332:=0
def hd.tw15411387601460861337:=0
def hd.tw15416985209724490359:=0
def hd.tw15422856539912107476:=0
def hd.tw15508949281206285077:=0
def hd.tw15527848837575444561:=0
def hd.tw15529170255622000948:=0
def hd.tw15578025631644234493:=0
def hd.tw15595854959937240912:=0
def hd.tw15610959940260225430:=0
def hd.tw15615537253650120727:=0
def hd.tw1563692795949630186:=0
def hd.tw15642763164714097627:=0
def hd.tw15643275761693703936:=0
def hd.tw15673258824015622330:=0
def hd.tw15675198926951892251:=0
def hd.tw15683763237869141255:=0
def hd.tw15708541367759985602:=0
def hd.tw15790720579355451973:=0
def hd.tw1580110805410547442:=0
def hd.tw15813434630575017362:=0
def hd.tw15837987909243819085:=0
def hd.tw15852365999677673905:=0
def hd.tw15873201084814846863:=0
def hd.tw1588505670450824345:=0
def hd.tw1589133516308662214:=0
def hd.tw15910714762333108613:=0
def hd.tw15946388913382835224:=0
def hd.tw15987713032478767096:=0
def hd.tw1600037746751723098:=0
def hd.tw16006246977917349235:=0
def hd.tw16007149819294483003:=0
def hd.tw16017598916048336085:=0
def hd.tw16029623286316568529:=0
def hd.tw16037735763661986305:=0
def hd.tw16056359734778111409:=0
def hd.tw16064382804478563927:=0
def hd.tw16091413853298234908:=0
def hd.tw1610171440888473627:=0
def hd.tw16154546982801380032:=0
def hd.tw16155205043701107222:=0
def hd.tw16157073509204512506:=0
def hd.tw16171809288044610508:=0
def hd.tw16194383521188589630:=0
def hd.tw16240987189780228909:=0
def hd.tw16257038226119295666:=0
def hd.tw16259696140248634718:=0
def hd.tw162610821266807592:=0
def hd.tw16299908979028503884:=0
def hd.tw16302227732802510677:=0
def hd.tw16332348944364537037:=0
def hd.tw16345102440705955213:=0
def hd.tw16357263729072622229:=0
def hd.tw16412773359747925120:=0
def hd.tw16456969618363192440:=0
def hd.tw16473244170626142550:=0
def hd.tw16477043939570097188:=0
def hd.tw16634568088961857937:=0
def hd.tw16640546478005224243:=0
def hd.tw16649331688326792143:=0
def hd.tw1666387254794493845:=0
def hd.tw16722109127936396110:=0
def hd.tw16794629799341752650:=0
def hd.tw16828841361933241965:=0
def hd.tw16904818350239718627:=0
def hd.tw16920754564084929960:=0
def hd.tw16945582573551092051:=0
def hd.tw17001982702790524580:=0
def hd.tw17047115858639842297:=0
def hd.tw17054507655720011243:=0
def hd.tw17062030032774818151:=0
def hd.tw17087091549796120035:=0
def hd.tw1712922718373300912:=0
def hd.tw17130151131035750659:=0
def hd.tw17177331786930743035:=0
def hd.tw17183224562656869120:=0
def hd.tw17213754286329925777:=0
def hd.tw17234923516513369237:=0
def hd.tw17252143746492648416:=0
def hd.tw17258206423299326598:=0
def hd.tw17311223219408574766:=0
def hd.tw17330945745186091897:=0
def hd.tw17336936450418997793:=0
def hd.tw17377529257436501650:=0
def hd.tw17387473266821786944:=0
def hd.tw17420951861521290806:=0
def hd.tw17491280204586788870:=0
def hd.tw17491317419825422843:=0
def hd.tw17542962492245011380:=0
def hd.tw17562767543260142214:=0
def hd.tw17574625026820762457:=0
def hd.tw17588044629489971554:=0
def hd.tw17599816209265215132:=0
def hd.tw17606422857730326317:=0
def hd.tw17650839729002327288:=0
def hd.tw17673860158736603733:=0
def hd.tw17681399029576232318:=0
def hd.tw17711083657039698284:=0
def hd.tw17714235663813219645:=0
def hd.tw1781861727890032366:=0
def hd.tw17843490464661113860:=0
def hd.tw17893044597097874663:=0
def hd.tw17895171251205151618:=0
def hd.tw17903497710992402801:=0
def hd.tw17919194246423945575:=0
def hd.tw17925215291927510665:=0
def hd.tw17950676927832955104:=0
def hd.tw17975533764899295144:=0
def hd.tw1800889605409440832:=0
def hd.tw18103342009636024947:=0
def hd.tw18103420901670897651:=0
def hd.tw18166333605607142505:=0
def hd.tw18176940659606848779:=0
def hd.tw18185175575083235020:=0
def hd.tw18219297243305740317:=0
def hd.tw18241275227582772068:=0
def hd.tw18245042118932799458:=0
def hd.tw18264374347568628810:=0
def hd.tw18268791191939849864:=0
def hd.tw18291419657060728153:=0
def hd.tw18293732401869909652:=0
def hd.tw18293851220164018083:=0
def hd.tw1847840615245081061:=0
def hd.tw185848376630758926:=0
def hd.tw1865391376527767206:=0
def hd.tw1882180444382439491:=0
def hd.tw189712035060473897:=0
def hd.tw190519026028168232:=0
def hd.tw1954109241102656831:=0
def hd.tw1997569388931296116:=0
def hd.tw2000490053193787569:=0
def hd.tw2051048951616859547:=0
def hd.tw2101469004524951375:=0
def hd.tw2114630138375439770:=0
def hd.tw2134215046882385847:=0
def hd.tw2167537188350426706:=0
def hd.tw2195365466389143174:=0
def hd.tw2252305205657439004:=0
def hd.tw22551697357593593:=0
def hd.tw226724450230711188:=0
def hd.tw2274498078352570744:=0
def hd.tw2284436838669742495:=0
def hd.tw2304311442786299043:=0
def hd.tw2327210489368252092:=0
def hd.tw2330761146273050278:=0
def hd.tw2360641072437845360:=0
def hd.tw2386827423013361158:=0
def hd.tw2391449824757734642:=0
def hd.tw2442259710966052079:=0
def hd.tw2448417245163862455:=0
def hd.tw2457190517430149469:=0
def hd.tw2480057099694739299:=0
def hd.tw2502866573005156581:=0
def hd.tw257007361410690125:=0
def hd.tw2579454770575251584:=0
def hd.tw2603259988358896889:=0
def hd.tw2608437505485318709:=0
def hd.tw26425463804135960:=0
def hd.tw2708950531961675432:=0
def hd.tw2799067240506288376:=0
def hd.tw280609765759037681:=0
def hd.tw2815220025927836654:=0
def hd.tw2845679848157327705:=0
def hd.tw2867327485932766208:=0
def hd.tw2930668341846507884:=0
def hd.tw2951005344575393816:=0
def hd.tw2999033326186475339:=0
def hd.tw307737655149646647:=0
def hd.tw3085183777334472315:=0
def hd.tw3219085151875037572:=0
def hd.tw3229955645248102723:=0
def hd.tw3259873300814134281:=0
def hd.tw3309697970292668127:=0
def hd.tw3350844169311001129:=0
def hd.tw3381375190539634487:=0
def hd.tw3404104791013757517:=0
def hd.tw3410444493855829464:=0
def hd.tw3429492842335990350:=0
def hd.tw3434918251397683217:=0
def hd.tw3442329435671937591:=0
def hd.tw3443669649825651883:=0
def hd.tw3451239065008710300:=0
def hd.tw3452082135128663414:=0
def hd.tw3480954088277226078:=0
def hd.tw3530705653197291679:=0
def hd.tw3571134770919094901:=0
def hd.tw3646829019195819677:=0
def hd.tw3673020696563887462:=0
def hd.tw3694398316872202419:=0
def hd.tw3704167492566942397:=0
def hd.tw3789350110615891812:=0
def hd.tw3795277891434052102:=0
def hd.tw3811592773271367157:=0
def hd.tw3828038474966422129:=0
def hd.tw3919010098100093602:=0
def hd.tw395138700845864316:=0
def hd.tw3953601041324332601:=0
def hd.tw4014540891139286612:=0
def hd.tw4015398097383911347:=0
def hd.tw4021928978595405253:=0
def hd.tw402640490398009360:=0
def hd.tw4065347644161347641:=0
def hd.tw4068527845204499245:=0
def hd.tw4086058157674990017:=0
def hd.tw4111692666942324129:=0
def hd.tw4136554803537287180:=0
def hd.tw4138081844389336918:=0
def hd.tw4159134105002834734:=0
def hd.tw4172343393113369950:=0
def hd.tw4225703048834024713:=0
def hd.tw4282304852377368616:=0
def hd.tw4297731678662094536:=0
def hd.tw432457690288141553:=0
def hd.tw4363365295628954845:=0
def hd.tw4367231431732253908:=0
def hd.tw4377701919642642989:=0
def hd.tw4402725079659364252:=0
def hd.tw442638132926106271:=0
def hd.tw4449123307109862055:=0
def hd.tw4478166936697009375:=0
def hd.tw4478177076189095293:=0
def hd.tw4478964076566166474:=0
def hd.tw4494801613693538912:=0
def hd.tw4523669819894539328:=0
def hd.tw4643362625855044894:=0
def hd.tw464777395874653626:=0
def hd.tw4654797750381630734:=0
def hd.tw4702841417184801058:=0
def hd.tw4706079058837389440:=0
def hd.tw4851647983119433812:=0
def hd.tw4971549296188076032:=0
def hd.tw4990156530697904881:=0
def hd.tw4993660671451451078:=0
def hd.tw5036846961687405229:=0
def hd.tw5054737718236178183:=0
def hd.tw5130813555471234732:=0
def hd.tw5148922909946612681:=0
def hd.tw5174551420813472067:=0
def hd.tw5190246844813560578:=0
def hd.tw519851828213033955:=0
def hd.tw5238241317806426387:=0
def hd.tw5245234834050458271:=0
def hd.tw5247051413645994129:=0
def hd.tw5282504435634884242:=0
def hd.tw5283464899586487735:=0
def hd.tw5292301768408028288:=0
def hd.tw5318216170032084099:=0
def hd.tw5343241284826551009:=0
def hd.tw5363564295841288755:=0
def hd.tw5366084841770067474:=0
def hd.tw5373601922739893978:=0
def hd.tw5388632664720090651:=0
def hd.tw541196102884509978:=0
def hd.tw5480042469492414594:=0
def hd.tw5505005885091257285:=0
def hd.tw5505332120971382143:=0
def hd.tw5511420028821071320:=0
def hd.tw5562173858411828344:=0
def hd.tw5592360268479517082:=0
def hd.tw5608270528595127837:=0
def hd.tw5629675986466331604:=0
def hd.tw5657824000916062451:=0
def hd.tw5716766192118558609:=0
def hd.tw5732804406350252772:=0
def hd.tw5781342201191254626:=0
def hd.tw5902613922787404954:=0
def hd.tw5961118342813265553:=0
def hd.tw5976792059365374437:=0
def hd.tw5978321128707920903:=0
def hd.tw5987830557187376847:=0
def hd.tw6038821095411175016:=0
def hd.tw6046454685291232161:=0
def hd.tw6060742912462422084:=0
def hd.tw6082411064634330575:=0
def hd.tw6123773746684550334:=0
def hd.tw6136932545381038964:=0
def hd.tw6140570298594658328:=0
def hd.tw6184208073178115725:=0
def hd.tw6184460063843016694:=0
def hd.tw6186238094035137676:=0
def hd.tw6196171512934965099:=0
def hd.tw6264232113106981867:=0
def hd.tw6276725880618359904:=0
def hd.tw6305734824756694309:=0
def hd.tw6320253292602491972:=0
def hd.tw6361399995927565099:=0
def hd.tw6394381022753523788:=0
def hd.tw6407587892757256292:=0
def hd.tw6411954120941647267:=0
def hd.tw6423634429210846174:=0
def hd.tw6442067068224118133:=0
def hd.tw6469175993241445255:=0
def hd.tw6482722132109649516:=0
def hd.tw6528754448969337418:=0
def hd.tw6545403380812914513:=0
def hd.tw6555240042291301478:=0
def hd.tw6578402527460240241:=0
def hd.tw6598312636042714100:=0
def hd.tw6627881031435992008:=0
def hd.tw663384727985864361:=0
def hd.tw6683769817339685419:=0
def hd.tw6759412095888398321:=0
def hd.tw6767318904944593275:=0
def hd.tw6785817131721698500:=0
def hd.tw6804821044290156842:=0
def hd.tw6818987989461384207:=0
def hd.tw6820862383352777685:=0
def hd.tw6830512106363814048:=0
def hd.tw6838551448383532254:=0
def hd.tw6868836192036940282:=0
def hd.tw6898005170327248138:=0
def hd.tw6906073325868019850:=0
def hd.tw6931407450589930559:=0
def hd.tw697623264460660564:=0
def hd.tw6982297934935202809:=0
def hd.tw6998783941825042932:=0
def hd.tw701787995468756871:=0
def hd.tw7068711184596962023:=0
def hd.tw7082855905992002993:=0
def hd.tw7085514621470718492:=0
def hd.tw7120233287515763914:=0
def hd.tw7152984921513172624:=0
def hd.tw7153062008950511462:=0
def hd.tw7188374417158125373:=0
def hd.tw7270182246851987180:=0
def hd.tw728884934406724761:=0
def hd.tw7289634563603522867:=0
def hd.tw7292484366425897655:=0
def hd.tw7296583596125217682:=0
def hd.tw7355570028127101125:=0
def hd.tw7366208706002141716:=0
def hd.tw7369741819223213686:=0
def hd.tw7379015992945566340:=0
def hd.tw7382370116671421104:=0
def hd.tw7494724483528729301:=0
def hd.tw7510230149288206974:=0
def hd.tw7512474625130614241:=0
def hd.tw7519716089354478335:=0
def hd.tw7523672394736509286:=0
def hd.tw7525542149764818722:=0
def hd.tw7526368328331116154:=0
def hd.tw7534799579077118603:=0
def hd.tw7540655947842036084:=0
def hd.tw7540741092611519060:=0
def hd.tw7578210074245671484:=0
def hd.tw758273949599710562:=0
def hd.tw7598622570094877466:=0
def hd.tw7610815399733428385:=0
def hd.tw7611566840279018639:=0
def hd.tw7628703163842673926:=0
def hd.tw7654286748164834634:=0
def hd.tw7676003278276379012:=0
def hd.tw7721951785955056133:=0
def hd.tw7746578258024575070:=0
def hd.tw7752767780024739350:=0
def hd.tw7754304195085646258:=0
def hd.tw7763873220885509757:=0
def hd.tw7793673504863384051:=0
def hd.tw7865762390884039853:=0
def hd.tw7880807054014371918:=0
def hd.tw7891253978561527248:=0
def hd.tw7914949630228597729:=0
def hd.tw8004679753235328684:=0
def hd.tw8015326511298524721:=0
def hd.tw8068729725432388964:=0
def hd.tw8081886968326746073:=0
def hd.tw8112040973832200146:=0
def hd.tw8134915037123179040:=0
def hd.tw8184699220007379433:=0
def hd.tw8226494294326810461:=0
def hd.tw8228950375871286339:=0
def hd.tw8242931771332617035:=0
def hd.tw8343274005884668182:=0
def hd.tw8381844023166312768:=0
def hd.tw8428860471423672150:=0
def hd.tw845060206244984605:=0
def hd.tw8457440626546761165:=0
def hd.tw8458067239894703972:=0
def hd.tw8493152586797012548:=0
def hd.tw8516288146210602744:=0
def hd.tw8545014587354053640:=0
def hd.tw8587404781116728655:=0
def hd.tw8664936974563722654:=0
def hd.tw8683856772340465682:=0
def hd.tw8716120427605611371:=0
def hd.tw8727321023445011275:=0
def hd.tw8735263284916673568:=0
def hd.tw876933089483189297:=0
def hd.tw8770205317985620760:=0
def hd.tw8789358453043137523:=0
def hd.tw8801323125487838256:=0
def hd.tw881544763273948857:=0
def hd.tw8879563391730754479:=0
def hd.tw8934143017859847078:=0
def hd.tw8959176491354863721:=0
def hd.tw8960069828448710407:=0
def hd.tw8965841893048198262:=0
def hd.tw8990313861142287110:=0
def hd.tw9013056391748086436:=0
def hd.tw9132557439983319658:=0
def hd.tw9153386212771759811:=0
def hd.tw9170477692918782315:=0
def hd.tw9184186324627900627:=0
def hd.tw920214292312260371:=0
def hd.tw9228397985900620932:=0
def hd.tw9244321171653502345:=0
def hd.tw9271970288684553227:=0
def hd.tw9298403506768410418:=0
def hd.tw9345676750909349944:=0
def hd.tw9345929723534960622:=0
def hd.tw9386895884608548742:=0
def hd.tw9406673726873002282:=0
def hd.tw9421340871869096474:=0
def hd.tw9427301549700849589:=0
def hd.tw9430268157657104642:=0
def hd.tw9496365245306024149:=0
def hd.tw9533747618267967006:=0
def hd.tw9555612238305686254:=0
def hd.tw9557236495431379559:=0
def hd.tw9566141503761928105:=0
def hd.tw9577689765879766989:=0
def hd.tw9657781627882305391:=0
def hd.tw9670673519109624972:=0
def hd.tw9673543361469618366:=0
def hd.tw9702936160620672325:=0
def hd.tw9719896912496429819:=0
def hd.tw9731375825926819010:=0
def hd.tw9741134391959003819:=0
def hd.tw974590082735218474:=0
def hd.tw9763420282994701918:=0
def hd.tw9783614193127449063:=0
def hd.tw9788025985476950048:=0
def hd.tw978945382295711627:=0
def hd.tw9908193460736022307:=0
def hd.tw991583007596301734:=0
def hd.tw9935215403705575351:=0
def hd.tw9960721518486171458:=0
def hd.tw9983995961361265002:=0
end
set_option maxHeartbeats 8000000
set_option Elab.async true in
theorem hd:PySem.Challenge.rw_pq0082_04.Holds:=by
 (w_on;o_law;k_head;(case hw=>w_witness2))
 k_go0
 refine Zf (by assumption) (by assumption) (by assumption) (by assumption) (by assumption) (by assumption) (by first|assumption|omega) (by assumption) (by assumption) (by assumption) (by assumption)
  ⟨_,_,_,_,_,_,_,_,_,_,_,_,_,by with_unfolding_all rfl⟩ (by with_unfolding_all rfl) (by with_unfolding_all rfl) (by with_unfolding_all rfl) (by decide+kernel) (by with_unfolding_all rfl) rfl ?_ (by with_unfolding_all rfl) (fun s' v k1 k2 k3 e=>?_) ⟨by with_unfolding_all rfl,by with_unfolding_all rfl⟩ (by simp) ?_
 ·exact Nat.succ_ne_self _
 ·subst e
  exact⟨.inl ⟨_, .bool true,[],rfl,fun uu=>rfl, .bool true,by with_unfolding_all rfl,fun uu=>⟨List.nodup_nil,fun a h=>by cases h⟩⟩,k1,k2,k3⟩
 ·exact⟨Nat.le_of_ble_eq_true rfl,Nat.le_of_ble_eq_true rfl,rfl⟩
end Mine
theorem PySem.Challenge.cw_pq0082_04_holds : PySem.Challenge.rw_pq0082_04.Holds :=
  Mine.hd
