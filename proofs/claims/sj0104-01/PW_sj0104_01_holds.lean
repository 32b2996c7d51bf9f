import PyProof.Rows.All
import Wide.All
import OpenK.AllK
import Wide.FinOn
import Lean
import PySem.Challenge.RW_sj0104_01
set_option Elab.async false
set_option autoImplicit true
set_option linter.all false
set_option maxRecDepth 100000
set_option genSizeOf false
set_option compiler.extract_closed false
noncomputable section
open PySem.Str renaming ofString→Qn
open List renaming mem_append_right→Qo,mem_append_left→Qq,length_map→Qs,getElem?_eq_some_iff→Qt,mem_singleton→Qu,mem_append→Qw,range→QA,getElem?_append_left→QD,getElem?_append_right→QE,append_assoc→QF,mem_cons→QJ,mem_map→QL,mem_of_getElem?→QU,toArray→QW,map_cons→QX,set_append_right→Q2,length_filter_le→Q6,getElem?_map→Q7,map_map→Ra,prefix_refl→Rj,take_append_getElem→Ro,getElem_mem→Rt,size_toArray→Ru,getElem?_eq_none_iff→Rz,replicate→RA,set→RG,mem_filter→RH,nodup_append→RK,nodup_cons→RP,length_append→RR,lookup_cons→RU,not_mem_nil→RV,getElem?_set_self→RW,filter_sublist→RY,map_append→RZ,map_congr_left→Sg,getElem_inj→Sj,take_length→Sn,nil_append→SC,map_inj_left→SD,mem_cons_of_mem→SE,getElem?_set_ne→SG,getElem?_eq_getElem→SL,getElem?_replicate→SO,getElem?_cons_zero→SQ,getElem?_cons_succ→SR,append_nil→SX,length_set→SY,contains_iff_mem→S3,mem_take_iff_getElem→Tf,length_pos_iff→Tg,sum_cons→Tk,range_succ→Tn,countP_cons→TK,eq_nil_of_length_eq_zero→TU,map_eq_nil_iff→T7,map_inj_right→Ud,pairwise_cons→Um,getD_eq_getElem?_getD→Un,filter_append→Uo,getElem?_zip_eq_some→Up,drop_eq_getElem_cons→Ut,foldl_append→UA,any_cons→UE,head_eq_of_cons_eq→UQ,tail_eq_of_cons_eq→UR,filter_cons→US,length_cons→UV,length_eq_zero_iff→UW,getElem_map→UX,all_eq_true→UY,take_of_length_le→U6,take_append_drop→Vn,mem_iff_getElem?→Vo,length→Vv,getElem?_zipIdx→Vx,mem_of_mem_take→VA,flatMap_append→VM,set_cons_succ→VV,getElem?_drop→VZ,reverse_cons→V8,set_set→Wb,flatMap_cons→We,map_fst_zip→Wi,map_reverse→Wu,flatMap_nil→Wy,find?_cons→WE,mem_range→W0,countP→Xp
open PySem renaming wpAny_bind→Qr,wpAny_pure→QB,PyData→QC,Value→QM,Shared→QR,wpAny→QS,wpAny_truthy_bool→Q3,intKind→Q5,mainGlobals→Q9,wpAny_holding→Rd,ReadsAll→Rf,bootBuiltins→Rp,wpAny_standAt→RI,foldedSetIterable→RL,NameKind→RT,Around→R7,starEach→R8,compareOp→Sb,Params→Sp,standAt→Su,wpAny_specialOf→Sy,bindArgs→SH,wpAny_assign_Name→SP,callEnv→SW,wpAny_ite_split→SZ,swappedStores→S0,wpAny_isTrue_Compare1→S2,holding→S5,wpAny_mono→S8,behindInMarks→Th,letOwnedTupleGo→Tl,wpAny_pyNext_list_item→Tz,wpAny_pyNext_list_end→TC,backTo→TE,assign→TH,assignEach→TJ,callWith→TQ,treeTable→T9,swapsWith→Ua,sysModules→Uf,builtinsNs→Ug,wpAny_Constant_int→Uh,binaryOp→Ui,Program→Uv,eqIsQuiet_byValue→Ux,wpAny_pyIter_list→Uz,assignInOrder→UD,swapsWithSole→UF,comprehension→UH,wpAt_of_wpAny→UJ,wpAny_call_entry→UM,wpAny_forIn_list→UN,wpAny_isInstance→UO,wpAny_list_append_plain→UP,codeAny→U0,call_meetsIn→U1,wpAny_Assign_Subscript→U3,wpAny_execs_nil→Vb,isSubtype_tuple_tuple→Ve,wpAny_storeName_local→Vf,wpAny_pyIter_listiter→Vg,exec_Assign_Name_used→Vi,wpAny_Subscript_Slice→Vj,builtinLookup_eq_fast→Vk,ks_codeAny_call_defAt→Vm,FuncData→Vp,wpAny_seqItems→Vq,wpAny_loadName_local→Vr,letTemporaryGo→Vs,sizeLine_eq→Vt,compTurn→Vu,wpAny_pyNext_zip_end→Vw,OsState→VC,cellsFrom→VE,wpAny_loadName_free→VF,callWith_type→VG,list_getitem_lookup→VH,wpAny_getItem_list→VU,valueAt→V3,without→V4,slot_list_getitem→V5,slot_list_setitem→V6,DictEntry→Wf,eqIsQuiet→Wg,getMethod→Wk,pyIter→Wl,wpAny_Dict_empty→Wm,wpAny_pyIter_zip→Wr,wpAny_Tuple→WA,relabel→WH,wpAny_rule→WO,loadGlobal→WP,wpAny_call→WQ,nsFind→WT,stored→WW,closureFor→WY,atKey→WZ,storeName→W7,BindsTo→W9,StrKeys→Xc,pyNext→Xd,setItem→Xe,newList→Xg,IsPair→Xh
open PySem.PyData renaming canLay0→Qv,bool→QT,int→QY,eqvAll→Rc,eqv→Rg,canLayAll0→Rn,depthAll→Rs,depth→RO
open Option renaming map_eq_some_iff→Qx,isSome_iff_exists→Qy,bind→QQ,bind_some→Rh,map_some→RQ,bind_eq_some_iff→RS,map_eq_none_iff→U4,getD_some→Wx,map→Xw
open PySem.Heap renaming get?_push_of_some→Qz,get?_push_size→QI,lt_size→Q1,get?_update_self→Sv,SameBut→SU,ExtBut→Tr,size_push→Ul
open Classical renaming byContradiction→QG,epsilon_spec_aux→Q0,epsilon→Rl,not_not→V9
open Nat renaming le_trans→QH,le_refl→QZ,le_add_right→Ri,ne_of_lt→Rq,gcd→Rv,zero_le→Ry,lt_of_le_of_lt→Sa,add_le_add_right→Sd,lt_succ_self→Sk,succ_le_succ→So,le_add_left→Sx,lt_succ_of_lt→SJ,mul_le_mul→SS,le_of_succ_le_succ→SV,pow_le_pow_right→Ta,lt_irrefl→Ti,add_right_comm→Tq,gcd_dvd_right→TA,not_lt→TG,max_eq_right→TL,min_eq_right→TM,le_succ→TR,min_eq_left→T5,max_eq_left→T6,add_assoc→UB,min_le_right→UL,succ_pos→U5,lt_add_of_pos_left→U8,gcd_eq_zero_iff→VJ,add_le_add_left→VK,mul_le_mul_left→VL,le_of_dvd→VO,lt_of_lt_of_le→VS,gcd_zero_right→VX,pos_of_ne_zero→VY,ne_of_gt→V1,sub_self→Wc,le_of_not_lt→Wp,succ_ne_self→Wq,gcd_eq_right→Ww,not_lt_zero→WG,le_of_lt→Xa,lt_or_ge→Xb,gcd_comm→Xk,zero_add→Xl,add_comm→Xm,le_total→Xo
open Int renaming mul_assoc→QK,lt_add_one_iff→Rb,fdiv_eq_ediv_of_nonneg→Re,le_trans→Rk,mul_left_comm→Rx,lt_of_le_of_lt→RC,natCast_nonneg→RE,fmod_eq_emod_of_nonneg→RF,natAbs_mul→RX,mul_eq_zero→R4,one_mul→R5,zero_mul→Si,mul_right_comm→Ss,natAbs_ediv_le_natAbs→Sw,neg_mul→SK,mul_pos→S9,eq_of_mul_eq_mul_right→Tb,ne_of_gt→Tt,mul_le_mul→TB,mul_one→TW,mul_le_mul_of_nonneg_left→TX,mul_add→TZ,natCast_mul→T4,mul_comm→T8,lt_of_lt_of_le→Uc,eq_of_mul_eq_mul_left→Uu,le_of_lt→U9,le_antisymm→Vc,add_mul→VB,zero_ediv→VQ,mul_emod_right→V0,mul_zero→Wa,natAbs_pos→WM,add_assoc→W4,ofNat_inj→W5,le_of_eq→Xi,le_total→Xj,zero_add→Xn
open PySem.F renaming plainAttrs_list→QN,slot_list_append→QO,type_list_append→QP,slot_dict_get→R9,plainAttrs_dict→Se,type_dict_get→S4,slot_tuple_hash→Tu,slot_dict_delitem→Us,args_dict_get_3→UT,entry_dict_get→U2,slot_dict_pop→Vh,slot_list_pop→Vl,slot_tuple_eq→WC
open PySem.Value renaming ref→QV,isInt→Uw,type→U7,int→VD
open Bool renaming and_eq_true→Q4,false_eq_true→RD,not_true→Sc,or_eq_true→SA,eq_iff_iff→SB,false_or→S1,not_eq_true'→Tx,and_eq_true_iff→TY,and_true→UG,or_false→W3
open PySem.SeqAt renaming shaped→Q8,compareEq_shaped→T3
open Option.some renaming inj→Rr
open PySem.BindsTo renaming of_defaults→RB
open PySem.Builtin.Tuple renaming tupleHashOf→RJ,tupleItemsOf→WN
open PySem.W.Fast renaming te14364793385576792824→RM
open PySem.Challenge renaming rw_sj0104_01→RN,pw_sj0104_01→WB
open PySem.Env renaming kindOf→Sf,blockKind→W2
open PyProof.Rows.ReadsAll renaming keeps→Sq
open List.Nodup renaming sublist→Sr
open PySem.Heap.SameBut renaming update→SM
open Array renaming length_toList→SN,mk→S7,forIn_toList→Ue,getElem?_eq_getElem→Ur
open PySem.Builtin.List renaming listExtendWith→S6,listSameRef→UI
open Ne renaming symm→Tc
open Nat.succ renaming inj→Td
open PySem.Heap.IsList renaming push→Te
open PySem.NameKind renaming free→Tj
open PySem.Obj renaming mapSeq→To,putNameByArray→Tp,putName_eq→Uk
open Inhabited renaming default→Ts
open PySem.W renaming hideAll→Tv,boot_heap→TD,hideAll_get→TN,emptyDict→Ub,instObj→Uy,behindTheImports→UK,of_hideAll→UZ,looks_nsIn→VT,keepIn→Wh,boot_drawn→WL,codeIn→WR,codeRec_of→WS,plainGet→WU,findIn→WV,boot_toks→W6
open PySem.Calls renaming Name_function_global→TP,callWith_builtin→Wn
open Prod renaming ext→TV,fst→Vy,snd→Xs
open PyProof.Rows renaming assign_Tuple_tuple→Uj,spliced_none→V2,Assign_Tuple→V7,IntsAre→WK,tail_any→WX
open PyProof.Rows.Reads renaming keeps→UC
open PySem.Builtin.Range renaming rangeSize→UU,rangeFitsLong→WJ,small→Xu
open List.cons renaming injEq→Va,inj→VP
open PySem.W.WShape renaming hasItems→Vd,has→Xv
open Prod.mk renaming injEq→VN,inj→Wz
open PySem.Heap.IsSliceOf renaming new→VW
open PySem.DictEntry renaming refKey→Wj
open And renaming intro→Wo
open PySem.Heap.DictOf renaming new→WD
open ForInStep renaming yield→WF
open PySem.SeqAt.Reads renaming unique→W1
open PySem.W.WTm renaming holds→W8
open PySem.Sem renaming wp_bind'→Xf
open PySem.Heap.Ns renaming at'→Xq
open PySem.IsRange renaming new→Xr
namespace Mine.Internal
open PySem PySem.W PyProof.Rows PySem.Calls
noncomputable abbrev pw:Uv:=WB
noncomputable abbrev kh(P:Sp)(s:Str):Int:=PyData.keyHash P s
noncomputable def w9(i:Nat):Stmt:=pw.main.body.getD i (.Pass Ts)
noncomputable def j8(i j:Nat):Stmt:=by
 cases w9 i with
 | ClassDef _ _ _ b _ _ _ _ _ _ _=>exact b.getD j (.Pass Ts)
 | _=>exact .Pass Ts
noncomputable def nO(st:Stmt)(q:Str)(g:Addr)(cl:List (Str×Addr))(dV pm cd ct:QM)(b:Addr):Vp:=by
 cases st with
 | FunctionDef name args body _ _ _ scope _ _ _=>exact { name,qualname:=q,params:=args,body:=.stmts body,scope,globals:=g,closure:=cl,defaults:=dV,kwdefaults:=.none,doc:=.none,pyModule:=pm,annotations:=none,code:=cd,closureTuple:=ct,builtins:=b }
 | _=>exact Ts
noncomputable section
noncomputable abbrev OB:=Sp→Obj
noncomputable def aL(l:List QM):OB:=fun _=>⟨.type "tuple",none,.seq l.toArray 0,#[]⟩
noncomputable def Nr:Nat→List Str→List QM
 | _,[]=>[]
 | n,s::l=>.str s n::Nr (n+1) l
noncomputable def bF(n:Nat)(l:List Str):OB:=aL (Nr n l)
noncomputable abbrev Di:=Sp→Wf
noncomputable def bW(s:Str)(n:Nat)(v:QM):Di:=fun P=>⟨kh P s,.str s n,v⟩
noncomputable def ja(n:Nat)(l:List Di):OB:=fun P=>⟨.type "dict",none,.dict (l.map fun e=>e P).toArray n,#[]⟩
noncomputable def Nt:Nat→List String→List Di
 | _,[]=>[]
 | n,s::l=>bW (.ofString s) n (.builtin s)::Nt (n+1) l
noncomputable def I9:Nat→List String→List Di
 | _,[]=>[]
 | n,s::l=>bW (.ofString s) n (.type s)::I9 (n+1) l
noncomputable def aN(s:Str)(n m:Nat):Di:=bW s n (.ref m)
noncomputable def bw:OB:=fun P=>⟨.none,none,(.fields #[]),#[]⟩
noncomputable def rP(x:Str)(y:Nat)(z:Int)(u:Nat)(v:Int):OB:=fun P=>⟨(.type "code"),none,(.fields #[(.str x y),(.str x (y+1)),(.str "/claim/cut.py" (y+2)),(.int z 0),(.int 0 0),(.int 0 0),(.int 0 0),(.int 0 0),(.ref u),(.bool false),(.int v 0),(.ref (u+1)),.none,.none,.none,.none,(.int ((y:Int)+3) 0),(.int z 0),(.str "/claim/cut.py" (y+4))]),#[]⟩
noncomputable def rQ(x:Nat)(y:Nat)(z:Str)(u:Nat):OB:=fun P=>⟨(.type "frame"),none,.plain,#[(some (.ref x)),(some (.ref 3)),(some (.ref y)),none,(some (.str z u)),none,(some (.ref 0))]⟩
noncomputable def ga(x:Nat)(y:Str):OB:=fun P=>⟨.none,none,(.func (nO (w9 x) y 0 [] .none .none .none .none 0)),#[]⟩
noncomputable def bL(x:Str)(y:Nat)(z:Str)(u:Int)(v:Int)(w:Nat)(a:Int)(b:Nat):OB:=fun P=>⟨(.type "code"),none,(.fields #[(.str x y),(.str z (y+1)),(.str "/claim/cut.py" (y+2)),(.int u 0),(.int v 0),(.int 0 0),(.int 0 0),(.int 3 0),(.ref w),(.bool true),(.int 181 0),(.ref (w+1)),.none,(.ref (w+2)),(.ref (w+3)),(.ref (w+4)),(.int a 0),(.int u 0),(.str "/claim/cut.py" b)]),#[]⟩
noncomputable def gb(x:Nat)(y:Str)(z:Str)(u:Nat)(v:Nat):OB:=fun P=>⟨(.type "function"),none,(.func (nO (w9 x) y 3 [] .none (.str z u) (.ref v) .none 0)),#[]⟩
noncomputable def tW:OB:=fun P=>⟨(.type "builtin_function_or_method"),none,(.fields #[(.builtin "type.__prepare__"),(.type "type")]),#[]⟩
noncomputable def Ja(x:Nat):OB:=fun P=>⟨(.type "cell"),none,(.cell (some (.ref x))),#[]⟩
noncomputable def bX(x:Nat)(y:Nat)(z:Str):OB:=fun P=>⟨.none,none,(.func (nO (j8 x y) z 0 [] .none .none .none .none 0)),#[]⟩
noncomputable def b9(x:Nat)(y:Nat)(z:Str)(u:Str)(v:Nat)(w:Nat):OB:=fun P=>⟨(.type "function"),none,(.func (nO (j8 x y) z 3 [] .none (.str u v) (.ref w) .none 0)),#[]⟩
noncomputable def BV(x:Nat)(y:Nat):OB:=fun P=>⟨(.type "getset_descriptor"),none,(.fields #[(.str "__weakref__" x),(.ref y),(.builtin "ExceptionGroup.__weakref__"),.none]),#[]⟩
noncomputable def p7(x:Nat):OB:=fun P=>⟨(.type "super"),none,(.fields #[(.ref x),(.ref x),(.ref x)]),#[]⟩
noncomputable def p8(x:Nat):OB:=fun P=>⟨(.type "builtin_function_or_method"),none,(.fields #[(.builtin "object.__init_subclass__"),(.ref x)]),#[]⟩
noncomputable def EV(x:Nat)(y:Nat):OB:=fun P=>⟨(.type "getset_descriptor"),none,(.fields #[(.str "__dict__" x),(.ref y),(.builtin "function.__dict__"),(.builtin "function.__dict__#set")]),#[]⟩
noncomputable def nj(x:Str)(y:Nat)(z:Str)(u:Int)(v:Int)(w:Nat):OB:=fun P=>⟨(.type "code"),none,(.fields #[(.str x y),(.str z (y+1)),(.str "/claim/cut.py" (y+2)),(.int u 0),(.int v 0),(.int 0 0),(.int 0 0),(.int 3 0),(.ref w),(.bool true),(.int 181 0),(.ref (w+1)),.none,.none,.none,(.ref (w+2)),(.int ((y:Int)+3) 0),(.int u 0),(.str "/claim/cut.py" (y+4))]),#[]⟩
noncomputable def BW(x:Nat)(y:Nat)(z:Str)(u:Nat)(v:Nat):OB:=fun P=>⟨(.type "function"),none,(.func (nO (j8 x y) z 3 [] (.ref u) (.str "minismt.rewrite" 1265) (.ref v) .none 0)),#[]⟩
def Nu:OB:=aL [(.int 0 282),(.int 1 283)]
def Nv:OB:=aL [(.int 1 285),(.int 1 286)]
def Nw:OB:=aL [(.int (-1) 289),(.int 1 290)]
def Nx:OB:=gb 9 "gcd_of" "minismt.ratios" 280 97
def Jb:OB:=gb 10 "lcm_of" "minismt.ratios" 280 104
def Jc:OB:=gb 11 "ratio" "minismt.ratios" 280 111
def Jd:OB:=gb 12 "add" "minismt.ratios" 280 118
def Je:OB:=gb 13 "neg" "minismt.ratios" 280 125
def Jf:OB:=gb 14 "mul" "minismt.ratios" 280 132
def Jg:OB:=gb 15 "div" "minismt.ratios" 280 139
def Jh:OB:=gb 16 "compare" "minismt.ratios" 280 146
def Ji:OB:=gb 17 "is_whole" "minismt.ratios" 280 153
def Jj:OB:=bF 377 ["true","false","num","bvnum"]
def EW:OB:=b9 24 0 "Bank.__init__" "minismt.terms" 365 168
def Jk:OB:=b9 24 4 "Bank.is_number_sort" "minismt.terms" 365 196
def Jl:OB:=b9 24 6 "Bank.declare_fun" "minismt.terms" 365 210
def Jm:OB:=b9 24 8 "Bank.fresh_const" "minismt.terms" 365 224
def Jn:OB:=b9 24 13 "Bank.op" "minismt.terms" 365 259
def Jo:OB:=b9 24 14 "Bank.args" "minismt.terms" 365 266
def Jp:OB:=b9 24 15 "Bank.sort" "minismt.terms" 365 273
def Jq:OB:=b9 24 16 "Bank.data" "minismt.terms" 365 280
def Jr:OB:=b9 24 19 "Bank.make" "minismt.terms" 365 301
def Js:OB:=b9 24 21 "Bank.is_value" "minismt.terms" 365 315
def Jt:OB:=b9 24 22 "Bank.want" "minismt.terms" 365 322
def Ju:OB:=b9 24 23 "Bank.want_all" "minismt.terms" 365 329
def Jv:OB:=b9 24 24 "Bank.true_term" "minismt.terms" 365 336
def Jw:OB:=b9 24 25 "Bank.false_term" "minismt.terms" 365 343
def Jx:OB:=b9 24 26 "Bank.bool_term" "minismt.terms" 365 350
def Jy:OB:=b9 25 0 "BoolBank.not_of" "minismt.terms" 365 385
def Jz:OB:=b9 25 1 "BoolBank.and_of" "minismt.terms" 365 392
def JA:OB:=b9 25 2 "BoolBank.or_of" "minismt.terms" 365 399
def JB:OB:=b9 25 6 "BoolBank.eq" "minismt.terms" 365 427
def JC:OB:=b9 25 8 "BoolBank.ite" "minismt.terms" 365 441
def JD:OB:=gb 26 "want_small" "minismt.terms" 365 481
def JE:OB:=b9 27 0 "NumberBank.num" "minismt.terms" 365 495
def JF:OB:=b9 27 1 "NumberBank.want_number" "minismt.terms" 365 502
def JG:OB:=b9 27 2 "NumberBank.plus" "minismt.terms" 365 509
def JH:OB:=b9 27 3 "NumberBank.times_num" "minismt.terms" 365 516
def JI:OB:=bL "__init__" 933 "TermBank.__init__" 320 1 581 938 939
noncomputable def N7:OB:=fun _=>⟨(.type "function"),none,(.func (nO (j8 28 0) "TermBank.__init__" 3 [("__class__",575)] .none (.str "minismt.terms" 365) (.ref 586) (.ref 580) 0)),#[]⟩
def JJ:OB:=b9 30 0 "LinearForm.__init__" "minismt.linear" 1076 703
def JK:OB:=b9 30 1 "LinearForm.add_part" "minismt.linear" 1076 710
def JL:OB:=b9 30 2 "LinearForm.add_constant" "minismt.linear" 1076 717
def JM:OB:=b9 30 3 "LinearForm.add_form" "minismt.linear" 1076 724
def JN:OB:=b9 30 4 "LinearForm.sorted_parts" "minismt.linear" 1076 729
def JO:OB:=gb 31 "form_of" "minismt.linear" 1076 750
def JP:OB:=gb 32 "difference_of" "minismt.linear" 1076 757
def JQ:OB:=gb 33 "row_of_form" "minismt.linear" 1076 764
def JR:OB:=gb 34 "scaled_row" "minismt.linear" 1076 769
def JS:OB:=gb 35 "whole_factor" "minismt.linear" 1076 776
def JT:OB:=gb 36 "whole_row" "minismt.linear" 1076 783
def JU:OB:=gb 37 "has_whole_terms" "minismt.linear" 1076 790
def JV:OB:=gb 38 "row_truth" "minismt.linear" 1076 797
def JW:OB:=gb 39 "is_hopeless" "minismt.linear" 1076 804
def JX:OB:=gb 40 "term_of_form" "minismt.linear" 1076 811
def JY:OB:=gb 41 "atom_of_row" "minismt.linear" 1076 818
def JZ:OB:=aL [(.int 1 1267),(.int 1 1268)]
def J0:OB:=aL [(.int (-1) 1271),(.int 1 1272)]
def J1:OB:=b9 46 0 "BoolRewriter.__init__" "minismt.rewrite" 1265 834
def J2:OB:=b9 46 3 "BoolRewriter.flat" "minismt.rewrite" 1265 855
def J3:OB:=b9 46 4 "BoolRewriter.thinned" "minismt.rewrite" 1265 860
def J4:OB:=b9 46 5 "BoolRewriter.joined" "minismt.rewrite" 1265 867
def J5:OB:=b9 46 6 "BoolRewriter.negated" "minismt.rewrite" 1265 874
def J6:OB:=b9 46 9 "BoolRewriter.chosen_bool" "minismt.rewrite" 1265 895
def J7:OB:=b9 46 10 "BoolRewriter.chosen" "minismt.rewrite" 1265 902
def J8:OB:=aL [(.int 0 1393)]
def N8:OB:=BW 46 11 "BoolRewriter.equal" 904 910
def J9:OB:=aL [(.int 0 1417)]
def N9:OB:=BW 46 13 "BoolRewriter.equal_chosen" 920 926
def Ka:OB:=aL [(.int 0 1481)]
noncomputable def Kb:OB:=fun _=>⟨(.type "function"),none,(.func (nO (j8 47 1) "ArithRewriter.equal_others" 3 [("__class__",952)] (.ref 964) (.str "minismt.rewrite" 1265) (.ref 971) (.ref 965) 0)),#[]⟩
def Kc:OB:=aL [(.int 0 1493)]
def Oa:OB:=BW 47 2 "ArithRewriter.equal_numbers" 973 977
def Gm:OB:=gb 49 "_law_feed" "law_sj0104_01" 1532 1008
def Gn:OB:=gb 50 "_law_dip" "law_sj0104_01" 1532 1015
def Go:OB:=gb 51 "_law_halves" "law_sj0104_01" 1532 1022
def Gp:OB:=gb 52 "_law_parted" "law_sj0104_01" 1532 1027
def Gq:OB:=gb 53 "_law_side" "law_sj0104_01" 1532 1032
def Gr:OB:=gb 54 "_law_times" "law_sj0104_01" 1532 1039
def Gs:OB:=gb 55 "_law_plus" "law_sj0104_01" 1532 1046
def Mq:OB:=gb 56 "_law_worth" "law_sj0104_01" 1532 1051
def Gu:OB:=gb 57 "_law_worlds" "law_sj0104_01" 1532 1056
def Gv:OB:=gb 58 "_law_is_meant" "law_sj0104_01" 1532 1063
def Gw:OB:=gb 59 "_law_sort_of" "law_sj0104_01" 1532 1068
def Gx:OB:=gb 60 "_law_say_one" "law_sj0104_01" 1532 1073
def Gy:OB:=gb 61 "law" "law_sj0104_01" 1532 1078
noncomputable def OQ:List OB:=[ja 159 ([bW "__name__" 1 (.str "builtins" 160),bW "__doc__" 2 (.builtin "builtins.__doc__:str#opaque"),bW "__package__" 3 (.builtin "builtins.__package__:str#opaque"),bW "__loader__" 4 (.builtin "builtins.__loader__:shared#opaque"),bW "__spec__" 5 (.builtin "builtins.__spec__#opaque")]++Nt 6 ["__build_class__","__import__","abs","all","any","ascii","bin","breakpoint","callable","chr","compile","delattr","dir","divmod","eval","exec","format","getattr","globals","hasattr","hash","hex","id","input","isinstance","issubclass","iter","aiter","len","locals","max","min","next","anext","oct","ord","pow","print","repr","round","setattr","sorted","sum","vars"]++[bW "None" 50 .none,bW "Ellipsis" 51 .ellipsis,bW "NotImplemented" 52 .notImplemented,bW "False" 53 (.bool false),bW "True" 54 (.bool true)]++I9 55 ["bool","memoryview","bytearray","bytes","classmethod","complex","dict","enumerate","filter","float","frozenset","property","int","list","map","object","range","reversed","set","slice","staticmethod","str","super","tuple","type","zip"]++[bW "__debug__" 81 (.bool true)]++I9 82 ["BaseException","BaseExceptionGroup","Exception","GeneratorExit","KeyboardInterrupt","SystemExit","ArithmeticError","AssertionError","AttributeError","BufferError","EOFError","ImportError","LookupError","MemoryError","NameError","OSError","ReferenceError","RuntimeError","StopAsyncIteration","StopIteration","SyntaxError","SystemError","TypeError","ValueError","Warning","FloatingPointError","OverflowError","ZeroDivisionError","BytesWarning","DeprecationWarning","EncodingWarning","FutureWarning","ImportWarning","PendingDeprecationWarning","ResourceWarning","RuntimeWarning","SyntaxWarning","UnicodeWarning","UserWarning","BlockingIOError","ChildProcessError","ConnectionError","FileExistsError","FileNotFoundError","InterruptedError","IsADirectoryError","NotADirectoryError","PermissionError","ProcessLookupError","TimeoutError","IndentationError","_IncompleteInputError","IndexError","KeyError","ModuleNotFoundError","NotImplementedError","PythonFinalizationError","RecursionError","UnboundLocalError","UnicodeError","BrokenPipeError","ConnectionAbortedError","ConnectionRefusedError","ConnectionResetError","TabError","UnicodeDecodeError","UnicodeEncodeError","UnicodeTranslateError","ExceptionGroup"]++[bW "EnvironmentError" 151 (.type "OSError"),bW "IOError" 152 (.type "OSError"),bW "open" 153 (.builtin "open"),bW "quit" 154 (.builtin "builtins.quit#opaque"),bW "exit" 155 (.builtin "builtins.exit#opaque"),bW "copyright" 156 (.builtin "builtins.copyright#opaque"),bW "credits" 157 (.builtin "builtins.credits#opaque"),bW "license" 158 (.builtin "builtins.license#opaque"),bW "help" 159 (.builtin "builtins.help#opaque")]),
ja 2 [aN "builtins" 162 4,aN "__main__" 163 5],
fun P=>⟨.none,none,(.dict #[⟨kh P "type.__subclasses__.Exception.0",(.str "type.__subclasses__.Exception.0" 230),(.int 47 0)⟩,⟨kh P "type.__subclasses__.Exception.n",(.str "type.__subclasses__.Exception.n" 231),(.int 1 0)⟩] 2),#[]⟩,
ja 65 [bW "__name__" 165 (.str "law_sj0104_01" 1532),bW "__doc__" 166 .none,bW "__package__" 167 .none,bW "__loader__" 168 (.builtin "__main__.__loader__#opaque"),bW "__spec__" 169 .none,aN "__annotations__" 170 6,aN "__builtins__" 171 4,bW "__file__" 173 (.str "/claim/cut.py" 172),bW "__cached__" 174 .none,aN "_wall" 193 21,aN "SmtError" 233 47,aN "SortFault" 256 67,aN "LimitFault" 279 86,aN "ZERO" 284 89,aN "ONE_ratios" 287 90,aN "MINUS_ONE_ratios" 291 91,aN "gcd_of" 299 98,aN "lcm_of" 307 105,aN "ratio" 316 112,aN "add" 324 119,aN "neg" 331 126,aN "mul" 339 133,aN "div" 347 140,aN "compare" 357 147,aN "is_whole" 364 154,bW "BOOL" 368 (.int 0 367),bW "INT" 370 (.int 1 369),bW "REAL" 372 (.int 2 371),bW "MOST_BITS" 376 (.int 65536 375),aN "VALUE_OPS" 381 155,aN "Bank" 666 368,aN "BoolBank" 799 473,aN "want_small" 806 482,aN "NumberBank" 920 569,aN "TermBank" 1075 688,aN "LinearForm" 1148 740,aN "form_of" 1164 751,aN "difference_of" 1174 758,aN "row_of_form" 1182 765,aN "scaled_row" 1188 770,aN "whole_factor" 1199 777,aN "whole_row" 1207 784,aN "has_whole_terms" 1217 791,aN "row_truth" 1228 798,aN "is_hopeless" 1238 805,aN "term_of_form" 1250 812,aN "atom_of_row" 1264 819,aN "ONE_rewrite" 1269 820,aN "MINUS_ONE_rewrite" 1273 821,bW "DEEPEST" 1275 (.int 50 1274),aN "BoolRewriter" 1459 944,aN "ArithRewriter" 1531 1002,aN "_law_feed" 1539 1009,aN "_law_dip" 1549 1016,aN "_law_halves" 1557 1023,aN "_law_parted" 1563 1028,aN "_law_side" 1569 1033,aN "_law_times" 1577 1040,aN "_law_plus" 1585 1047,aN "_law_worth" 1591 1052,aN "_law_worlds" 1597 1057,aN "_law_is_meant" 1613 1064,aN "_law_sort_of" 1619 1069,aN "_law_say_one" 1625 1074,aN "law" 1631 1079],
fun _=>⟨(.type "module"),(some 0),.plain,#[]⟩,
fun _=>⟨(.type "module"),(some 3),.plain,#[]⟩,
ja 0 [],
aL [],
bw,
rP "<module>" 176 1 7 175,
rQ 9 3 "__main__" 164,
aL [],
fun _=>⟨.none,none,(.fields #[(.int 1 0),(.int 0 0),(.ref 20),(.int 5 0),(.int 0 0),(.ref 28),(.int 13 0),(.int 0 0),(.ref 56),(.int 17 0),(.int 0 0),(.ref 75),(.int 25 0),(.int 0 0),(.ref 97),(.int 30 0),(.int 0 0),(.ref 104),(.int 32 0),(.int 0 0),(.ref 111),(.int 39 0),(.int 0 0),(.ref 118),(.int 43 0),(.int 0 0),(.ref 125),(.int 45 0),(.int 0 0),(.ref 132),(.int 49 0),(.int 0 0),(.ref 139),(.int 53 0),(.int 0 0),(.ref 146),(.int 56 0),(.int 0 0),(.ref 153),(.int 64 0),(.int 0 0),(.ref 161),(.int 193 0),(.int 0 0),(.ref 378),(.int 257 0),(.int 0 0),(.ref 481),(.int 260 0),(.int 0 0),(.ref 488),(.int 318 0),(.int 0 0),(.ref 578),(.int 374 0),(.int 0 0),(.ref 696),(.int 402 0),(.int 0 0),(.ref 750),(.int 420 0),(.int 0 0),(.ref 757),(.int 424 0),(.int 0 0),(.ref 764),(.int 426 0),(.int 0 0),(.ref 769),(.int 430 0),(.int 0 0),(.ref 776),(.int 437 0),(.int 0 0),(.ref 783),(.int 442 0),(.int 0 0),(.ref 790),(.int 447 0),(.int 0 0),(.ref 797),(.int 455 0),(.int 0 0),(.ref 804),(.int 461 0),(.int 0 0),(.ref 811),(.int 468 0),(.int 0 0),(.ref 818),(.int 480 0),(.int 0 0),(.ref 827),(.int 603 0),(.int 0 0),(.ref 955),(.int 639 0),(.int 0 0),(.ref 1008),(.int 641 0),(.int 0 0),(.ref 1015),(.int 647 0),(.int 0 0),(.ref 1022),(.int 651 0),(.int 0 0),(.ref 1027),(.int 654 0),(.int 0 0),(.ref 1032),(.int 657 0),(.int 0 0),(.ref 1039),(.int 659 0),(.int 0 0),(.ref 1046),(.int 661 0),(.int 0 0),(.ref 1051),(.int 682 0),(.int 0 0),(.ref 1056),(.int 688 0),(.int 0 0),(.ref 1063),(.int 696 0),(.int 0 0),(.ref 1068),(.int 704 0),(.int 0 0),(.ref 1073),(.int 709 0),(.int 0 0),(.ref 1078)]),#[]⟩,
rP "<module>" 182 1 11 181,
rQ 13 3 "__main__" 164,
aL [],
bw,
bF 190 ["k"],
aL [],
ga 0 "_wall",
bL "_wall" 187 "_wall" 1 1 15 191 192,
gb 0 "_wall" "__main__" 164 20,
aL [(.type "Exception")],
tW,
ja 7 [bW "__module__" 203 (.str "minismt.errors" 194),bW "__qualname__" 205 (.str "SmtError" 204),bW "__firstlineno__" 207 (.int 5 206),aN "__init__" 216 37,aN "told" 223 44,aN "__static_attributes__" 225 45,aN "__classcell__" 226 25],
Ja 47,
aL [],
fun _=>⟨.none,none,(.fields #[(.int 7 0),(.int 4 0),(.ref 36),(.int 11 0),(.int 4 0),(.ref 43)]),#[]⟩,
rP "SmtError" 198 5 26 181,
rQ 28 24 "minismt.errors" 194,
aL [(.ref 25)],
bF 211 ["__class__"],
bw,
bF 212 ["self","what"],
aL [],
bX 2 0 "SmtError.__init__",
bL "__init__" 208 "SmtError.__init__" 7 2 31 214 215,
fun _=>⟨(.type "function"),none,(.func (nO (j8 2 0) "SmtError.__init__" 3 [("__class__",25)] .none (.str "minismt.errors" 194) (.ref 36) (.ref 30) 0)),#[]⟩,
aL [],
bw,
bF 220 ["self"],
aL [],
bX 2 1 "SmtError.told",
bL "told" 217 "SmtError.told" 11 1 38 221 222,
b9 2 1 "SmtError.told" "minismt.errors" 194 43,
bF 224 ["what"],
ja 4 [bW "__module__" 203 (.str "minismt.errors" 194),bW "__firstlineno__" 207 (.int 5 206),aN "__init__" 216 37,aN "told" 223 44,aN "__static_attributes__" 225 45,aN "__weakref__" 228 48,bW "__doc__" 229 .none],
fun _=>⟨(.type "type"),none,(.cls ⟨"SmtError",[(.type "Exception")],[(.ref 47),(.type "Exception"),(.type "BaseException"),(.type "object")],46,"SmtError",true,[],[(.ref 67),(.ref 86)],false,none,false⟩),#[(some (.ref 22)),none,(some (.str "SmtError" 196)),(some (.str "SmtError" 204)),(some (.builtin "Exception.__new__")),(some (.bool true))]⟩,
BV 227 47,
p7 47,
p8 47,
aL [(.ref 47)],
tW,
ja 5 [bW "__module__" 241 (.str "minismt.errors" 194),bW "__qualname__" 243 (.str "SortFault" 242),bW "__firstlineno__" 245 (.int 13 244),aN "told" 252 64,aN "__static_attributes__" 253 65],
aL [],
fun _=>⟨.none,none,(.fields #[(.int 15 0),(.int 4 0),(.ref 63)]),#[]⟩,
rP "SortFault" 236 13 54 181,
rQ 56 53 "minismt.errors" 194,
aL [],
bw]
noncomputable def OS:List OB:=[bF 249 ["self"],
aL [],
bX 3 0 "SortFault.told",
bL "told" 246 "SortFault.told" 15 1 58 250 251,
b9 3 0 "SortFault.told" "minismt.errors" 194 63,
aL [],
ja 2 [bW "__module__" 241 (.str "minismt.errors" 194),bW "__firstlineno__" 245 (.int 13 244),aN "told" 252 64,aN "__static_attributes__" 253 65,bW "__doc__" 254 .none],
fun _=>⟨(.type "type"),none,(.cls ⟨"SortFault",[(.ref 47)],[(.ref 67),(.ref 47),(.type "Exception"),(.type "BaseException"),(.type "object")],66,"SortFault",true,[],[],false,none,false⟩),#[(some (.ref 51)),none,(some (.str "SortFault" 234)),(some (.str "SortFault" 242)),(some (.builtin "Exception.__new__")),(some (.bool true))]⟩,
p7 67,
p8 67,
aL [(.ref 47)],
tW,
ja 5 [bW "__module__" 264 (.str "minismt.errors" 194),bW "__qualname__" 266 (.str "LimitFault" 265),bW "__firstlineno__" 268 (.int 17 267),aN "told" 275 83,aN "__static_attributes__" 276 84],
aL [],
fun _=>⟨.none,none,(.fields #[(.int 19 0),(.int 4 0),(.ref 82)]),#[]⟩,
rP "LimitFault" 259 17 73 181,
rQ 75 72 "minismt.errors" 194,
aL [],
bw,
bF 272 ["self"],
aL [],
bX 4 0 "LimitFault.told",
bL "told" 269 "LimitFault.told" 19 1 77 273 274,
b9 4 0 "LimitFault.told" "minismt.errors" 194 82,
aL [],
ja 2 [bW "__module__" 264 (.str "minismt.errors" 194),bW "__firstlineno__" 268 (.int 17 267),aN "told" 275 83,aN "__static_attributes__" 276 84,bW "__doc__" 277 .none],
fun _=>⟨(.type "type"),none,(.cls ⟨"LimitFault",[(.ref 47)],[(.ref 86),(.ref 47),(.type "Exception"),(.type "BaseException"),(.type "object")],85,"LimitFault",true,[],[],false,none,false⟩),#[(some (.ref 70)),none,(some (.str "LimitFault" 257)),(some (.str "LimitFault" 265)),(some (.builtin "Exception.__new__")),(some (.bool true))]⟩,
p7 86,
p8 86,
Nu,
Nv,
Nw,
aL [],
bw,
bF 295 ["a","b"],
aL [],
ga 9 "gcd_of",
bL "gcd_of" 292 "gcd_of" 25 2 92 297 298,
Nx,
aL [],
bw,
bF 303 ["a","b"],
aL [],
ga 10 "lcm_of",
bL "lcm_of" 300 "lcm_of" 30 2 99 305 306,
Jb,
aL [],
bw,
bF 311 ["top","bottom","common"],
aL [],
ga 11 "ratio",
bL "ratio" 308 "ratio" 32 2 106 314 315,
Jc,
aL [],
bw,
bF 320 ["a","b"],
aL [],
ga 12 "add",
bL "add" 317 "add" 39 2 113 322 323,
Jd]
noncomputable def OT:List OB:=[aL [],
bw,
bF 328 ["a"],
aL [],
ga 13 "neg",
bL "neg" 325 "neg" 43 1 120 329 330,
Je,
aL [],
bw,
bF 335 ["a","b"],
aL [],
ga 14 "mul",
bL "mul" 332 "mul" 45 2 127 337 338,
Jf,
aL [],
bw,
bF 343 ["a","b"],
aL [],
ga 15 "div",
bL "div" 340 "div" 49 2 134 345 346,
Jg,
aL [],
bw,
bF 351 ["a","b","left","right"],
aL [],
ga 16 "compare",
bL "compare" 348 "compare" 53 2 141 355 356,
Jh,
aL [],
bw,
bF 361 ["a"],
aL [],
ga 17 "is_whole",
bL "is_whole" 358 "is_whole" 56 1 148 362 363,
Ji,
Jj,
aL [],
tW,
ja 33 [bW "__module__" 389 (.str "minismt.terms" 365),bW "__qualname__" 391 (.str "Bank" 390),bW "__firstlineno__" 393 (.int 64 392),aN "__init__" 400 169,aN "sort_name" 408 176,aN "declare_sort" 416 183,aN "width_of" 424 190,aN "is_number_sort" 432 197,aN "is_free_sort" 440 204,aN "declare_fun" 450 211,aN "fresh_fun" 460 218,aN "fresh_const" 469 225,aN "fun_name" 477 232,aN "fun_arg_sorts" 485 239,aN "fun_result" 493 246,aN "fun_count" 500 253,aN "op" 508 260,aN "args" 516 267,aN "sort" 524 274,aN "data" 532 281,aN "width" 540 288,aN "size" 547 295,aN "make" 560 302,aN "find_made" 571 309,aN "is_value" 579 316,aN "want" 589 323,aN "want_all" 600 330,aN "true_term" 607 337,aN "false_term" 614 344,aN "bool_term" 622 351,aN "parts" 630 358,aN "parts_of_all" 645 365,aN "__static_attributes__" 659 366],
aL [],
fun _=>⟨.none,none,(.fields #[(.int 66 0),(.int 4 0),(.ref 168),(.int 81 0),(.int 4 0),(.ref 175),(.int 84 0),(.int 4 0),(.ref 182),(.int 87 0),(.int 4 0),(.ref 189),(.int 90 0),(.int 4 0),(.ref 196),(.int 93 0),(.int 4 0),(.ref 203),(.int 96 0),(.int 4 0),(.ref 210),(.int 102 0),(.int 4 0),(.ref 217),(.int 105 0),(.int 4 0),(.ref 224),(.int 108 0),(.int 4 0),(.ref 231),(.int 111 0),(.int 4 0),(.ref 238),(.int 114 0),(.int 4 0),(.ref 245),(.int 117 0),(.int 4 0),(.ref 252),(.int 120 0),(.int 4 0),(.ref 259),(.int 123 0),(.int 4 0),(.ref 266),(.int 126 0),(.int 4 0),(.ref 273),(.int 129 0),(.int 4 0),(.ref 280),(.int 132 0),(.int 4 0),(.ref 287),(.int 135 0),(.int 4 0),(.ref 294),(.int 138 0),(.int 4 0),(.ref 301),(.int 150 0),(.int 4 0),(.ref 308),(.int 153 0),(.int 4 0),(.ref 315),(.int 156 0),(.int 4 0),(.ref 322),(.int 160 0),(.int 4 0),(.ref 329),(.int 164 0),(.int 4 0),(.ref 336),(.int 167 0),(.int 4 0),(.ref 343),(.int 170 0),(.int 4 0),(.ref 350),(.int 173 0),(.int 4 0),(.ref 357),(.int 176 0),(.int 4 0),(.ref 364)]),#[]⟩,
rP "Bank" 384 64 159 181,
rQ 161 158 "minismt.terms" 365,
aL [],
bw,
bF 397 ["self"],
aL [],
bX 24 0 "Bank.__init__",
bL "__init__" 394 "Bank.__init__" 66 1 163 398 399,
EW,
aL [],
bw,
bF 404 ["self","s"],
aL [],
bX 24 1 "Bank.sort_name",
bL "sort_name" 401 "Bank.sort_name" 81 2 170 406 407,
b9 24 1 "Bank.sort_name" "minismt.terms" 365 175,
aL [],
bw,
bF 412 ["self","name"]]
noncomputable def OU:List OB:=[aL [],
bX 24 2 "Bank.declare_sort",
bL "declare_sort" 409 "Bank.declare_sort" 84 2 177 414 415,
b9 24 2 "Bank.declare_sort" "minismt.terms" 365 182,
aL [],
bw,
bF 420 ["self","s"],
aL [],
bX 24 3 "Bank.width_of",
bL "width_of" 417 "Bank.width_of" 87 2 184 422 423,
b9 24 3 "Bank.width_of" "minismt.terms" 365 189,
aL [],
bw,
bF 428 ["self","s"],
aL [],
bX 24 4 "Bank.is_number_sort",
bL "is_number_sort" 425 "Bank.is_number_sort" 90 2 191 430 431,
Jk,
aL [],
bw,
bF 436 ["self","s"],
aL [],
bX 24 5 "Bank.is_free_sort",
bL "is_free_sort" 433 "Bank.is_free_sort" 93 2 198 438 439,
b9 24 5 "Bank.is_free_sort" "minismt.terms" 365 203,
aL [],
bw,
bF 444 ["self","name","arg_sorts","result"],
aL [],
bX 24 6 "Bank.declare_fun",
bL "declare_fun" 441 "Bank.declare_fun" 96 4 205 448 449,
Jl,
aL [],
bw,
bF 454 ["self","stem","arg_sorts","result"],
aL [],
bX 24 7 "Bank.fresh_fun",
bL "fresh_fun" 451 "Bank.fresh_fun" 102 4 212 458 459,
b9 24 7 "Bank.fresh_fun" "minismt.terms" 365 217,
aL [],
bw,
bF 464 ["self","name","s"],
aL [],
bX 24 8 "Bank.fresh_const",
bL "fresh_const" 461 "Bank.fresh_const" 105 3 219 467 468,
Jm,
aL [],
bw,
bF 473 ["self","f"],
aL [],
bX 24 9 "Bank.fun_name",
bL "fun_name" 470 "Bank.fun_name" 108 2 226 475 476,
b9 24 9 "Bank.fun_name" "minismt.terms" 365 231,
aL [],
bw,
bF 481 ["self","f"],
aL [],
bX 24 10 "Bank.fun_arg_sorts",
bL "fun_arg_sorts" 478 "Bank.fun_arg_sorts" 111 2 233 483 484,
b9 24 10 "Bank.fun_arg_sorts" "minismt.terms" 365 238]
noncomputable def OV:List OB:=[aL [],
bw,
bF 489 ["self","f"],
aL [],
bX 24 11 "Bank.fun_result",
bL "fun_result" 486 "Bank.fun_result" 114 2 240 491 492,
b9 24 11 "Bank.fun_result" "minismt.terms" 365 245,
aL [],
bw,
bF 497 ["self"],
aL [],
bX 24 12 "Bank.fun_count",
bL "fun_count" 494 "Bank.fun_count" 117 1 247 498 499,
b9 24 12 "Bank.fun_count" "minismt.terms" 365 252,
aL [],
bw,
bF 504 ["self","t"],
aL [],
bX 24 13 "Bank.op",
bL "op" 501 "Bank.op" 120 2 254 506 507,
Jn,
aL [],
bw,
bF 512 ["self","t"],
aL [],
bX 24 14 "Bank.args",
bL "args" 509 "Bank.args" 123 2 261 514 515,
Jo,
aL [],
bw,
bF 520 ["self","t"],
aL [],
bX 24 15 "Bank.sort",
bL "sort" 517 "Bank.sort" 126 2 268 522 523,
Jp,
aL [],
bw,
bF 528 ["self","t"],
aL [],
bX 24 16 "Bank.data",
bL "data" 525 "Bank.data" 129 2 275 530 531,
Jq,
aL [],
bw,
bF 536 ["self","t"],
aL [],
bX 24 17 "Bank.width",
bL "width" 533 "Bank.width" 132 2 282 538 539,
b9 24 17 "Bank.width" "minismt.terms" 365 287,
aL [],
bw,
bF 544 ["self"],
aL [],
bX 24 18 "Bank.size",
bL "size" 541 "Bank.size" 135 1 289 545 546,
b9 24 18 "Bank.size" "minismt.terms" 365 294,
aL [],
bw,
bF 551 ["self","op","args","sort","data","key","found"],
aL []]
noncomputable def OW:List OB:=[bX 24 19 "Bank.make",
bL "make" 548 "Bank.make" 138 5 296 558 559,
Jr,
aL [],
bw,
bF 564 ["self","op","args","sort","data"],
aL [],
bX 24 20 "Bank.find_made",
bL "find_made" 561 "Bank.find_made" 150 5 303 569 570,
b9 24 20 "Bank.find_made" "minismt.terms" 365 308,
aL [],
bw,
bF 575 ["self","t"],
aL [],
bX 24 21 "Bank.is_value",
bL "is_value" 572 "Bank.is_value" 153 2 310 577 578,
Js,
aL [],
bw,
bF 583 ["self","t","s","where"],
aL [],
bX 24 22 "Bank.want",
bL "want" 580 "Bank.want" 156 4 317 587 588,
Jt,
aL [],
bw,
bF 593 ["self","some","s","where","t"],
aL [],
bX 24 23 "Bank.want_all",
bL "want_all" 590 "Bank.want_all" 160 4 324 598 599,
Ju,
aL [],
bw,
bF 604 ["self"],
aL [],
bX 24 24 "Bank.true_term",
bL "true_term" 601 "Bank.true_term" 164 1 331 605 606,
Jv,
aL [],
bw,
bF 611 ["self"],
aL [],
bX 24 25 "Bank.false_term",
bL "false_term" 608 "Bank.false_term" 167 1 338 612 613,
Jw,
aL [],
bw,
bF 618 ["self","holds"],
aL [],
bX 24 26 "Bank.bool_term",
bL "bool_term" 615 "Bank.bool_term" 170 2 345 620 621,
Jx,
aL [],
bw,
bF 626 ["self","t"],
aL [],
bX 24 27 "Bank.parts",
bL "parts" 623 "Bank.parts" 173 2 352 628 629,
b9 24 27 "Bank.parts" "minismt.terms" 365 357,
aL []]
noncomputable def OX:List OB:=[bw,
bF 634 ["self","some","found","done","root","stack","t","is_open","part"],
aL [],
bX 24 28 "Bank.parts_of_all",
bL "parts_of_all" 631 "Bank.parts_of_all" 176 2 359 643 644,
b9 24 28 "Bank.parts_of_all" "minismt.terms" 365 364,
bF 646 ["false_number","fresh_count","fun_args","fun_names","fun_results","numbers","sort_names","sort_widths","term_args","term_datas","term_ops","term_sorts","true_number"],
ja 4 [bW "__module__" 389 (.str "minismt.terms" 365),bW "__firstlineno__" 393 (.int 64 392),aN "__init__" 400 169,aN "sort_name" 408 176,aN "declare_sort" 416 183,aN "width_of" 424 190,aN "is_number_sort" 432 197,aN "is_free_sort" 440 204,aN "declare_fun" 450 211,aN "fresh_fun" 460 218,aN "fresh_const" 469 225,aN "fun_name" 477 232,aN "fun_arg_sorts" 485 239,aN "fun_result" 493 246,aN "fun_count" 500 253,aN "op" 508 260,aN "args" 516 267,aN "sort" 524 274,aN "data" 532 281,aN "width" 540 288,aN "size" 547 295,aN "make" 560 302,aN "find_made" 571 309,aN "is_value" 579 316,aN "want" 589 323,aN "want_all" 600 330,aN "true_term" 607 337,aN "false_term" 614 344,aN "bool_term" 622 351,aN "parts" 630 358,aN "parts_of_all" 645 365,aN "__static_attributes__" 659 366,aN "__dict__" 661 369,aN "__weakref__" 663 370,bW "__doc__" 664 .none],
fun _=>⟨(.type "type"),none,(.cls ⟨"Bank",[(.type "object")],[(.ref 368),(.type "object")],367,"Bank",true,[],[(.ref 473)],false,none,false⟩),#[none,none,(some (.str "Bank" 382)),(some (.str "Bank" 390)),(some (.builtin "object.__new__")),(some (.bool true))]⟩,
EV 660 368,
BV 662 368,
p7 368,
p8 368,
aL [(.ref 368)],
tW,
ja 17 [bW "__module__" 674 (.str "minismt.terms" 365),bW "__qualname__" 676 (.str "BoolBank" 675),bW "__firstlineno__" 678 (.int 193 677),aN "not_of" 686 386,aN "and_of" 694 393,aN "or_of" 702 400,aN "xor_of" 711 407,aN "implies_of" 720 414,aN "iff" 729 421,aN "eq" 738 428,aN "distinct" 746 435,aN "ite" 756 442,aN "app" 768 449,aN "folded" 777 456,aN "with_args" 786 463,aN "replaced" 795 470,aN "__static_attributes__" 796 471],
aL [],
fun _=>⟨.none,none,(.fields #[(.int 195 0),(.int 4 0),(.ref 385),(.int 205 0),(.int 4 0),(.ref 392),(.int 211 0),(.int 4 0),(.ref 399),(.int 217 0),(.int 4 0),(.ref 406),(.int 220 0),(.int 4 0),(.ref 413),(.int 223 0),(.int 4 0),(.ref 420),(.int 227 0),(.int 4 0),(.ref 427),(.int 233 0),(.int 4 0),(.ref 434),(.int 236 0),(.int 4 0),(.ref 441),(.int 241 0),(.int 4 0),(.ref 448),(.int 249 0),(.int 4 0),(.ref 455),(.int 252 0),(.int 4 0),(.ref 462),(.int 255 0),(.int 4 0),(.ref 469)]),#[]⟩,
rP "BoolBank" 669 193 376 181,
rQ 378 375 "minismt.terms" 365,
aL [],
bw,
bF 682 ["self","t"],
aL [],
bX 25 0 "BoolBank.not_of",
bL "not_of" 679 "BoolBank.not_of" 195 2 380 684 685,
Jy,
aL [],
bw,
bF 690 ["self","some"],
aL [],
bX 25 1 "BoolBank.and_of",
bL "and_of" 687 "BoolBank.and_of" 205 2 387 692 693,
Jz,
aL [],
bw,
bF 698 ["self","some"],
aL [],
bX 25 2 "BoolBank.or_of",
bL "or_of" 695 "BoolBank.or_of" 211 2 394 700 701,
JA,
aL [],
bw,
bF 706 ["self","a","b"],
aL [],
bX 25 3 "BoolBank.xor_of",
bL "xor_of" 703 "BoolBank.xor_of" 217 3 401 709 710,
b9 25 3 "BoolBank.xor_of" "minismt.terms" 365 406,
aL [],
bw,
bF 715 ["self","a","b"],
aL [],
bX 25 4 "BoolBank.implies_of",
bL "implies_of" 712 "BoolBank.implies_of" 220 3 408 718 719,
b9 25 4 "BoolBank.implies_of" "minismt.terms" 365 413,
aL [],
bw,
bF 724 ["self","a","b"],
aL [],
bX 25 5 "BoolBank.iff"]
noncomputable def OY:List OB:=[bL "iff" 721 "BoolBank.iff" 223 3 415 727 728,
b9 25 5 "BoolBank.iff" "minismt.terms" 365 420,
aL [],
bw,
bF 733 ["self","a","b"],
aL [],
bX 25 6 "BoolBank.eq",
bL "eq" 730 "BoolBank.eq" 227 3 422 736 737,
JB,
aL [],
bw,
bF 742 ["self","some"],
aL [],
bX 25 7 "BoolBank.distinct",
bL "distinct" 739 "BoolBank.distinct" 233 2 429 744 745,
b9 25 7 "BoolBank.distinct" "minismt.terms" 365 434,
aL [],
bw,
bF 750 ["self","c","a","b"],
aL [],
bX 25 8 "BoolBank.ite",
bL "ite" 747 "BoolBank.ite" 236 4 436 754 755,
JC,
aL [],
bw,
bF 760 ["self","f","some","sorts","t","s"],
aL [],
bX 25 9 "BoolBank.app",
bL "app" 757 "BoolBank.app" 241 3 443 766 767,
b9 25 9 "BoolBank.app" "minismt.terms" 365 448,
aL [],
bw,
bF 772 ["self","t","args"],
aL [],
bX 25 10 "BoolBank.folded",
bL "folded" 769 "BoolBank.folded" 249 3 450 775 776,
b9 25 10 "BoolBank.folded" "minismt.terms" 365 455,
aL [],
bw,
bF 781 ["self","t","args"],
aL [],
bX 25 11 "BoolBank.with_args",
bL "with_args" 778 "BoolBank.with_args" 252 3 457 784 785,
b9 25 11 "BoolBank.with_args" "minismt.terms" 365 462,
aL [],
bw,
bF 790 ["self","t","table"],
aL [],
bX 25 12 "BoolBank.replaced",
bL "replaced" 787 "BoolBank.replaced" 255 3 464 793 794,
b9 25 12 "BoolBank.replaced" "minismt.terms" 365 469,
aL [],
ja 2 [bW "__module__" 674 (.str "minismt.terms" 365),bW "__firstlineno__" 678 (.int 193 677),aN "not_of" 686 386,aN "and_of" 694 393,aN "or_of" 702 400,aN "xor_of" 711 407,aN "implies_of" 720 414,aN "iff" 729 421,aN "eq" 738 428,aN "distinct" 746 435,aN "ite" 756 442,aN "app" 768 449,aN "folded" 777 456,aN "with_args" 786 463,aN "replaced" 795 470,aN "__static_attributes__" 796 471,bW "__doc__" 797 .none],
fun _=>⟨(.type "type"),none,(.cls ⟨"BoolBank",[(.ref 368)],[(.ref 473),(.ref 368),(.type "object")],472,"BoolBank",true,[],[(.ref 569)],false,none,false⟩),#[(some (.ref 373)),none,(some (.str "BoolBank" 667)),(some (.str "BoolBank" 675)),(some (.builtin "object.__new__")),(some (.bool true))]⟩,
p7 473,
p8 473,
aL [],
bw,
bF 803 ["value"],
aL []]
noncomputable def OZ:List OB:=[ga 26 "want_small",
bL "want_small" 800 "want_small" 257 1 476 804 805,
JD,
aL [(.ref 473)],
tW,
ja 15 [bW "__module__" 814 (.str "minismt.terms" 365),bW "__qualname__" 816 (.str "NumberBank" 815),bW "__firstlineno__" 818 (.int 260 817),aN "num" 827 496,aN "want_number" 836 503,aN "plus" 844 510,aN "times_num" 854 517,aN "times" 863 524,aN "over_num" 872 531,aN "negative" 880 538,aN "minus" 889 545,aN "le" 898 552,aN "lt" 907 559,aN "with_args" 916 566,aN "__static_attributes__" 917 567],
aL [],
fun _=>⟨.none,none,(.fields #[(.int 262 0),(.int 4 0),(.ref 495),(.int 270 0),(.int 4 0),(.ref 502),(.int 274 0),(.int 4 0),(.ref 509),(.int 281 0),(.int 4 0),(.ref 516),(.int 288 0),(.int 4 0),(.ref 523),(.int 297 0),(.int 4 0),(.ref 530),(.int 300 0),(.int 4 0),(.ref 537),(.int 303 0),(.int 4 0),(.ref 544),(.int 306 0),(.int 4 0),(.ref 551),(.int 311 0),(.int 4 0),(.ref 558),(.int 316 0),(.int 4 0),(.ref 565)]),#[]⟩,
rP "NumberBank" 809 260 486 181,
rQ 488 485 "minismt.terms" 365,
aL [],
bw,
bF 822 ["self","value","s"],
aL [],
bX 27 0 "NumberBank.num",
bL "num" 819 "NumberBank.num" 262 3 490 825 826,
JE,
aL [],
bw,
bF 831 ["self","t","where"],
aL [],
bX 27 1 "NumberBank.want_number",
bL "want_number" 828 "NumberBank.want_number" 270 3 497 834 835,
JF,
aL [],
bw,
bF 840 ["self","some"],
aL [],
bX 27 2 "NumberBank.plus",
bL "plus" 837 "NumberBank.plus" 274 2 504 842 843,
JG,
aL [],
bw,
bF 848 ["self","value","t","s"],
aL [],
bX 27 3 "NumberBank.times_num",
bL "times_num" 845 "NumberBank.times_num" 281 3 511 852 853,
JH,
aL [],
bw,
bF 858 ["self","a","b"],
aL [],
bX 27 4 "NumberBank.times",
bL "times" 855 "NumberBank.times" 288 3 518 861 862,
b9 27 4 "NumberBank.times" "minismt.terms" 365 523,
aL [],
bw,
bF 867 ["self","t","value"],
aL [],
bX 27 5 "NumberBank.over_num",
bL "over_num" 864 "NumberBank.over_num" 297 3 525 870 871,
b9 27 5 "NumberBank.over_num" "minismt.terms" 365 530,
aL [],
bw,
bF 876 ["self","t"],
aL [],
bX 27 6 "NumberBank.negative",
bL "negative" 873 "NumberBank.negative" 300 2 532 878 879,
b9 27 6 "NumberBank.negative" "minismt.terms" 365 537,
aL []]
noncomputable def O0:List OB:=[bw,
bF 884 ["self","a","b"],
aL [],
bX 27 7 "NumberBank.minus",
bL "minus" 881 "NumberBank.minus" 303 3 539 887 888,
b9 27 7 "NumberBank.minus" "minismt.terms" 365 544,
aL [],
bw,
bF 893 ["self","a","b"],
aL [],
bX 27 8 "NumberBank.le",
bL "le" 890 "NumberBank.le" 306 3 546 896 897,
b9 27 8 "NumberBank.le" "minismt.terms" 365 551,
aL [],
bw,
bF 902 ["self","a","b"],
aL [],
bX 27 9 "NumberBank.lt",
bL "lt" 899 "NumberBank.lt" 311 3 553 905 906,
b9 27 9 "NumberBank.lt" "minismt.terms" 365 558,
aL [],
bw,
bF 911 ["self","t","args"],
aL [],
bX 27 10 "NumberBank.with_args",
bL "with_args" 908 "NumberBank.with_args" 316 3 560 914 915,
b9 27 10 "NumberBank.with_args" "minismt.terms" 365 565,
aL [],
ja 2 [bW "__module__" 814 (.str "minismt.terms" 365),bW "__firstlineno__" 818 (.int 260 817),aN "num" 827 496,aN "want_number" 836 503,aN "plus" 844 510,aN "times_num" 854 517,aN "times" 863 524,aN "over_num" 872 531,aN "negative" 880 538,aN "minus" 889 545,aN "le" 898 552,aN "lt" 907 559,aN "with_args" 916 566,aN "__static_attributes__" 917 567,bW "__doc__" 918 .none],
fun _=>⟨(.type "type"),none,(.cls ⟨"NumberBank",[(.ref 473)],[(.ref 569),(.ref 473),(.ref 368),(.type "object")],568,"NumberBank",true,[],[(.ref 688)],false,none,false⟩),#[(some (.ref 483)),none,(some (.str "NumberBank" 807)),(some (.str "NumberBank" 815)),(some (.builtin "object.__new__")),(some (.bool true))]⟩,
p7 569,
p8 569,
aL [(.ref 569)],
tW,
ja 20 [bW "__module__" 928 (.str "minismt.terms" 365),bW "__qualname__" 930 (.str "TermBank" 929),bW "__firstlineno__" 932 (.int 318 931),aN "__init__" 940 587,aN "bv_sort" 948 594,aN "find_bv_sort" 956 601,aN "want_bits" 965 608,aN "bv_num" 974 615,aN "bv_one" 983 622,aN "bv_two" 993 629,aN "concat" 1002 636,aN "extract" 1012 643,aN "zero_extend" 1021 650,aN "sign_extend" 1030 657,aN "want_place" 1040 664,aN "bit" 1049 671,aN "carry" 1059 678,aN "below" 1069 685,aN "__static_attributes__" 1071 686,aN "__classcell__" 1072 575],
Ja 688,
aL [],
fun _=>⟨.none,none,(.fields #[(.int 320 0),(.int 4 0),(.ref 586),(.int 324 0),(.int 4 0),(.ref 593),(.int 327 0),(.int 4 0),(.ref 600),(.int 330 0),(.int 4 0),(.ref 607),(.int 334 0),(.int 4 0),(.ref 614),(.int 337 0),(.int 4 0),(.ref 621),(.int 340 0),(.int 4 0),(.ref 628),(.int 343 0),(.int 4 0),(.ref 635),(.int 346 0),(.int 4 0),(.ref 642),(.int 349 0),(.int 4 0),(.ref 649),(.int 352 0),(.int 4 0),(.ref 656),(.int 355 0),(.int 4 0),(.ref 663),(.int 359 0),(.int 4 0),(.ref 670),(.int 365 0),(.int 4 0),(.ref 677),(.int 368 0),(.int 4 0),(.ref 684)]),#[]⟩,
rP "TermBank" 923 318 576 181,
rQ 578 574 "minismt.terms" 365,
aL [(.ref 575)],
bF 936 ["__class__"],
bw,
bF 937 ["self"],
aL [],
bX 28 0 "TermBank.__init__",
JI,
N7,
aL [],
bw,
bF 944 ["self","width"],
aL [],
bX 28 1 "TermBank.bv_sort",
bL "bv_sort" 941 "TermBank.bv_sort" 324 2 588 946 947,
b9 28 1 "TermBank.bv_sort" "minismt.terms" 365 593,
aL [],
bw,
bF 952 ["self","width"],
aL [],
bX 28 2 "TermBank.find_bv_sort"]
noncomputable def Ob:List OB:=[bL "find_bv_sort" 949 "TermBank.find_bv_sort" 327 2 595 954 955,
b9 28 2 "TermBank.find_bv_sort" "minismt.terms" 365 600,
aL [],
bw,
bF 960 ["self","t","where"],
aL [],
bX 28 3 "TermBank.want_bits",
bL "want_bits" 957 "TermBank.want_bits" 330 3 602 963 964,
b9 28 3 "TermBank.want_bits" "minismt.terms" 365 607,
aL [],
bw,
bF 969 ["self","value","width"],
aL [],
bX 28 4 "TermBank.bv_num",
bL "bv_num" 966 "TermBank.bv_num" 334 3 609 972 973,
b9 28 4 "TermBank.bv_num" "minismt.terms" 365 614,
aL [],
bw,
bF 978 ["self","op","t"],
aL [],
bX 28 5 "TermBank.bv_one",
bL "bv_one" 975 "TermBank.bv_one" 337 3 616 981 982,
b9 28 5 "TermBank.bv_one" "minismt.terms" 365 621,
aL [],
bw,
bF 987 ["self","op","a","b"],
aL [],
bX 28 6 "TermBank.bv_two",
bL "bv_two" 984 "TermBank.bv_two" 340 4 623 991 992,
b9 28 6 "TermBank.bv_two" "minismt.terms" 365 628,
aL [],
bw,
bF 997 ["self","a","b"],
aL [],
bX 28 7 "TermBank.concat",
bL "concat" 994 "TermBank.concat" 343 3 630 1000 1001,
b9 28 7 "TermBank.concat" "minismt.terms" 365 635,
aL [],
bw,
bF 1006 ["self","high","low","t"],
aL [],
bX 28 8 "TermBank.extract",
bL "extract" 1003 "TermBank.extract" 346 4 637 1010 1011,
b9 28 8 "TermBank.extract" "minismt.terms" 365 642,
aL [],
bw,
bF 1016 ["self","many","t"],
aL [],
bX 28 9 "TermBank.zero_extend",
bL "zero_extend" 1013 "TermBank.zero_extend" 349 3 644 1019 1020,
b9 28 9 "TermBank.zero_extend" "minismt.terms" 365 649,
aL [],
bw,
bF 1025 ["self","many","t"],
aL [],
bX 28 10 "TermBank.sign_extend",
bL "sign_extend" 1022 "TermBank.sign_extend" 352 3 651 1028 1029,
b9 28 10 "TermBank.sign_extend" "minismt.terms" 365 656,
aL [],
bw]
noncomputable def Oc:List OB:=[bF 1034 ["self","i","t","where"],
aL [],
bX 28 11 "TermBank.want_place",
bL "want_place" 1031 "TermBank.want_place" 355 4 658 1038 1039,
b9 28 11 "TermBank.want_place" "minismt.terms" 365 663,
aL [],
bw,
bF 1044 ["self","i","t"],
aL [],
bX 28 12 "TermBank.bit",
bL "bit" 1041 "TermBank.bit" 359 3 665 1047 1048,
b9 28 12 "TermBank.bit" "minismt.terms" 365 670,
aL [],
bw,
bF 1053 ["self","i","a","b"],
aL [],
bX 28 13 "TermBank.carry",
bL "carry" 1050 "TermBank.carry" 365 4 672 1057 1058,
b9 28 13 "TermBank.carry" "minismt.terms" 365 677,
aL [],
bw,
bF 1063 ["self","i","a","b"],
aL [],
bX 28 14 "TermBank.below",
bL "below" 1060 "TermBank.below" 368 4 679 1067 1068,
b9 28 14 "TermBank.below" "minismt.terms" 365 684,
bF 1070 ["bv_numbers"],
ja 3 [bW "__module__" 928 (.str "minismt.terms" 365),bW "__firstlineno__" 932 (.int 318 931),aN "__init__" 940 587,aN "bv_sort" 948 594,aN "find_bv_sort" 956 601,aN "want_bits" 965 608,aN "bv_num" 974 615,aN "bv_one" 983 622,aN "bv_two" 993 629,aN "concat" 1002 636,aN "extract" 1012 643,aN "zero_extend" 1021 650,aN "sign_extend" 1030 657,aN "want_place" 1040 664,aN "bit" 1049 671,aN "carry" 1059 678,aN "below" 1069 685,aN "__static_attributes__" 1071 686,bW "__doc__" 1073 .none],
fun _=>⟨(.type "type"),none,(.cls ⟨"TermBank",[(.ref 569)],[(.ref 688),(.ref 569),(.ref 473),(.ref 368),(.type "object")],687,"TermBank",true,[],[],false,none,false⟩),#[(some (.ref 572)),none,(some (.str "TermBank" 921)),(some (.str "TermBank" 929)),(some (.builtin "object.__new__")),(some (.bool true))]⟩,
p7 688,
p8 688,
aL [],
tW,
ja 10 [bW "__module__" 1085 (.str "minismt.linear" 1076),bW "__qualname__" 1087 (.str "LinearForm" 1086),bW "__firstlineno__" 1089 (.int 374 1088),aN "__init__" 1096 704,aN "add_part" 1106 711,aN "add_constant" 1114 718,aN "add_form" 1124 725,aN "sorted_parts" 1130 730,aN "evaluate" 1138 737,aN "__static_attributes__" 1141 738],
aL [],
fun _=>⟨.none,none,(.fields #[(.int 376 0),(.int 4 0),(.ref 703),(.int 380 0),(.int 4 0),(.ref 710),(.int 387 0),(.int 4 0),(.ref 717),(.int 390 0),(.int 4 0),(.ref 724),(.int 397 0),(.int 4 0),(.ref 729),(.int 400 0),(.int 4 0),(.ref 736)]),#[]⟩,
rP "LinearForm" 1080 374 694 181,
rQ 696 693 "minismt.linear" 1076,
aL [],
bw,
bF 1093 ["self"],
aL [],
bX 30 0 "LinearForm.__init__",
bL "__init__" 1090 "LinearForm.__init__" 376 1 698 1094 1095,
JJ,
aL [],
bw,
bF 1100 ["self","term","factor","found"],
aL [],
bX 30 1 "LinearForm.add_part",
bL "add_part" 1097 "LinearForm.add_part" 380 3 705 1104 1105,
JK,
aL [],
bw,
bF 1110 ["self","number"],
aL [],
bX 30 2 "LinearForm.add_constant",
bL "add_constant" 1107 "LinearForm.add_constant" 387 2 712 1112 1113,
JL,
aL []]
noncomputable def Od:List OB:=[bw,
bF 1118 ["self","other","factor","term"],
aL [],
bX 30 3 "LinearForm.add_form",
bL "add_form" 1115 "LinearForm.add_form" 390 3 719 1122 1123,
JM,
aL [],
bw,
bX 30 4 "LinearForm.sorted_parts",
nj "sorted_parts" 1125 "LinearForm.sorted_parts" 397 1 726,
JN,
aL [],
bw,
bF 1134 ["self","values"],
aL [],
bX 30 5 "LinearForm.evaluate",
bL "evaluate" 1131 "LinearForm.evaluate" 400 2 731 1136 1137,
b9 30 5 "LinearForm.evaluate" "minismt.linear" 1076 736,
bF 1139 ["constant","parts"],
ja 4 [bW "__module__" 1085 (.str "minismt.linear" 1076),bW "__firstlineno__" 1089 (.int 374 1088),aN "__init__" 1096 704,aN "add_part" 1106 711,aN "add_constant" 1114 718,aN "add_form" 1124 725,aN "sorted_parts" 1130 730,aN "evaluate" 1138 737,aN "__static_attributes__" 1141 738,aN "__dict__" 1143 741,aN "__weakref__" 1145 742,bW "__doc__" 1146 .none],
fun _=>⟨(.type "type"),none,(.cls ⟨"LinearForm",[(.type "object")],[(.ref 740),(.type "object")],739,"LinearForm",true,[],[],false,none,false⟩),#[none,none,(some (.str "LinearForm" 1078)),(some (.str "LinearForm" 1086)),(some (.builtin "object.__new__")),(some (.bool true))]⟩,
EV 1142 740,
BV 1144 740,
p7 740,
p8 740,
aL [],
bw,
bF 1152 ["bank","t","found","waiting","here","factor","op","args","other","inner"],
aL [],
ga 31 "form_of",
bL "form_of" 1149 "form_of" 402 2 745 1162 1163,
JO,
aL [],
bw,
bF 1168 ["bank","one","other","found"],
aL [],
ga 32 "difference_of",
bL "difference_of" 1165 "difference_of" 420 3 752 1172 1173,
JP,
aL [],
bw,
bF 1178 ["form","relation"],
aL [],
ga 33 "row_of_form",
bL "row_of_form" 1175 "row_of_form" 424 2 759 1180 1181,
JQ,
aL [],
bw,
ga 34 "scaled_row",
nj "scaled_row" 1183 "scaled_row" 426 2 766,
JR,
aL [],
bw,
bF 1192 ["row","common","shared","term","own"],
aL [],
ga 35 "whole_factor",
bL "whole_factor" 1189 "whole_factor" 430 1 771 1197 1198,
JS,
aL [],
bw]
noncomputable def Oe:List OB:=[bF 1203 ["row","found"],
aL [],
ga 36 "whole_row",
bL "whole_row" 1200 "whole_row" 437 1 778 1205 1206,
JT,
aL [],
bw,
bF 1211 ["bank","row","term","own"],
aL [],
ga 37 "has_whole_terms",
bL "has_whole_terms" 1208 "has_whole_terms" 442 2 785 1215 1216,
JU,
aL [],
bw,
bF 1221 ["row","terms","relation","bound","order"],
aL [],
ga 38 "row_truth",
bL "row_truth" 1218 "row_truth" 447 1 792 1226 1227,
JV,
aL [],
bw,
bF 1232 ["bank","row","truth","found"],
aL [],
ga 39 "is_hopeless",
bL "is_hopeless" 1229 "is_hopeless" 455 2 799 1236 1237,
JW,
aL [],
bw,
bF 1242 ["bank","form","sort","found","term","own"],
aL [],
ga 40 "term_of_form",
bL "term_of_form" 1239 "term_of_form" 461 3 806 1248 1249,
JX,
aL [],
bw,
bF 1254 ["bank","row","sort","form","term","own","left","right"],
aL [],
ga 41 "atom_of_row",
bL "atom_of_row" 1251 "atom_of_row" 468 3 813 1262 1263,
JY,
JZ,
J0,
aL [],
tW,
ja 20 [bW "__module__" 1283 (.str "minismt.rewrite" 1265),bW "__qualname__" 1285 (.str "BoolRewriter" 1284),bW "__firstlineno__" 1287 (.int 480 1286),aN "__init__" 1295 835,aN "simplify" 1303 842,aN "made" 1312 849,aN "flat" 1326 856,aN "thinned" 1332 861,aN "joined" 1345 868,aN "negated" 1353 875,aN "parity" 1361 882,aN "same" 1372 889,aN "chosen_bool" 1382 896,aN "chosen" 1392 903,aN "equal" 1405 911,aN "equal_others" 1416 919,aN "equal_chosen" 1430 927,aN "are_too_many" 1438 934,aN "apart" 1447 941,aN "__static_attributes__" 1452 942],
aL [],
fun _=>⟨.none,none,(.fields #[(.int 482 0),(.int 4 0),(.ref 834),(.int 488 0),(.int 4 0),(.ref 841),(.int 491 0),(.int 4 0),(.ref 848),(.int 494 0),(.int 4 0),(.ref 855),(.int 509 0),(.int 4 0),(.ref 860),(.int 521 0),(.int 4 0),(.ref 867),(.int 531 0),(.int 4 0),(.ref 874),(.int 534 0),(.int 4 0),(.ref 881),(.int 537 0),(.int 4 0),(.ref 888),(.int 551 0),(.int 4 0),(.ref 895),(.int 564 0),(.int 4 0),(.ref 902),(.int 577 0),(.int 4 0),(.ref 910),(.int 589 0),(.int 4 0),(.ref 918),(.int 592 0),(.int 4 0),(.ref 926),(.int 598 0),(.int 4 0),(.ref 933),(.int 601 0),(.int 4 0),(.ref 940)]),#[]⟩,
rP "BoolRewriter" 1278 480 825 181,
rQ 827 824 "minismt.rewrite" 1265,
aL [],
bw,
bF 1291 ["self","bank"],
aL [],
bX 46 0 "BoolRewriter.__init__",
bL "__init__" 1288 "BoolRewriter.__init__" 482 2 829 1293 1294,
J1,
aL [],
bw,
bF 1299 ["self","t"],
aL []]
noncomputable def Of:List OB:=[bX 46 1 "BoolRewriter.simplify",
bL "simplify" 1296 "BoolRewriter.simplify" 488 2 836 1301 1302,
b9 46 1 "BoolRewriter.simplify" "minismt.rewrite" 1265 841,
aL [],
bw,
bF 1307 ["self","t","args"],
aL [],
bX 46 2 "BoolRewriter.made",
bL "made" 1304 "BoolRewriter.made" 491 3 843 1310 1311,
b9 46 2 "BoolRewriter.made" "minismt.rewrite" 1265 848,
aL [],
bw,
bF 1316 ["self","op","some","unit","settling","found","stack","t"],
aL [],
bX 46 3 "BoolRewriter.flat",
bL "flat" 1313 "BoolRewriter.flat" 494 3 850 1324 1325,
J2,
aL [],
bw,
bX 46 4 "BoolRewriter.thinned",
nj "thinned" 1327 "BoolRewriter.thinned" 509 3 857,
J3,
aL [],
bw,
bF 1336 ["self","op","some","settling","other","found","kept"],
aL [],
bX 46 5 "BoolRewriter.joined",
bL "joined" 1333 "BoolRewriter.joined" 521 3 862 1343 1344,
J4,
aL [],
bw,
bF 1349 ["self","t"],
aL [],
bX 46 6 "BoolRewriter.negated",
bL "negated" 1346 "BoolRewriter.negated" 531 2 869 1351 1352,
J5,
aL [],
bw,
bF 1357 ["self","some"],
aL [],
bX 46 7 "BoolRewriter.parity",
bL "parity" 1354 "BoolRewriter.parity" 534 2 876 1359 1360,
b9 46 7 "BoolRewriter.parity" "minismt.rewrite" 1265 881,
aL [],
bw,
bF 1365 ["self","a","b","is_odd","result"],
aL [],
bX 46 8 "BoolRewriter.same",
bL "same" 1362 "BoolRewriter.same" 537 3 883 1370 1371,
b9 46 8 "BoolRewriter.same" "minismt.rewrite" 1265 888,
aL [],
bw,
bF 1376 ["self","c","a","b"],
aL [],
bX 46 9 "BoolRewriter.chosen_bool",
bL "chosen_bool" 1373 "BoolRewriter.chosen_bool" 551 4 890 1380 1381,
J6,
aL [],
bw,
bF 1386 ["self","c","a","b"]]
noncomputable def Og:List OB:=[aL [],
bX 46 10 "BoolRewriter.chosen",
bL "chosen" 1383 "BoolRewriter.chosen" 564 4 897 1390 1391,
J7,
J8,
aL [],
bw,
bF 1397 ["self","a","b","deep","value","other"],
aL [],
bX 46 11 "BoolRewriter.equal",
bL "equal" 1394 "BoolRewriter.equal" 577 4 905 1403 1404,
N8,
aL [(.int 0 1406)],
aL [],
bw,
bF 1410 ["self","a","b","deep"],
aL [],
bX 46 12 "BoolRewriter.equal_others",
bL "equal_others" 1407 "BoolRewriter.equal_others" 589 4 913 1414 1415,
BW 46 12 "BoolRewriter.equal_others" 912 918,
J9,
aL [],
bw,
bF 1421 ["self","value","b","deep","c","first","second"],
aL [],
bX 46 13 "BoolRewriter.equal_chosen",
bL "equal_chosen" 1418 "BoolRewriter.equal_chosen" 592 4 921 1428 1429,
N9,
aL [],
bw,
bF 1434 ["self","args"],
aL [],
bX 46 14 "BoolRewriter.are_too_many",
bL "are_too_many" 1431 "BoolRewriter.are_too_many" 598 2 928 1436 1437,
b9 46 14 "BoolRewriter.are_too_many" "minismt.rewrite" 1265 933,
aL [],
bw,
bF 1442 ["self","t","args"],
aL [],
bX 46 15 "BoolRewriter.apart",
bL "apart" 1439 "BoolRewriter.apart" 601 3 935 1445 1446,
b9 46 15 "BoolRewriter.apart" "minismt.rewrite" 1265 940,
bF 1448 ["bank","known","no","yes"],
ja 4 [bW "__module__" 1283 (.str "minismt.rewrite" 1265),bW "__firstlineno__" 1287 (.int 480 1286),aN "__init__" 1295 835,aN "simplify" 1303 842,aN "made" 1312 849,aN "flat" 1326 856,aN "thinned" 1332 861,aN "joined" 1345 868,aN "negated" 1353 875,aN "parity" 1361 882,aN "same" 1372 889,aN "chosen_bool" 1382 896,aN "chosen" 1392 903,aN "equal" 1405 911,aN "equal_others" 1416 919,aN "equal_chosen" 1430 927,aN "are_too_many" 1438 934,aN "apart" 1447 941,aN "__static_attributes__" 1452 942,aN "__dict__" 1454 945,aN "__weakref__" 1456 946,bW "__doc__" 1457 .none],
fun _=>⟨(.type "type"),none,(.cls ⟨"BoolRewriter",[(.type "object")],[(.ref 944),(.type "object")],943,"BoolRewriter",true,[],[(.ref 1002)],false,none,false⟩),#[none,none,(some (.str "BoolRewriter" 1276)),(some (.str "BoolRewriter" 1284)),(some (.builtin "object.__new__")),(some (.bool true))]⟩,
EV 1453 944,
BV 1455 944,
p7 944,
p8 944,
aL [(.ref 944)],
tW,
ja 11 [bW "__module__" 1467 (.str "minismt.rewrite" 1265),bW "__qualname__" 1469 (.str "ArithRewriter" 1468),bW "__firstlineno__" 1471 (.int 603 1470),aN "made" 1480 963,aN "equal_others" 1492 972,aN "equal_numbers" 1499 978,aN "compared" 1509 985,aN "compared_row" 1518 992,aN "summed" 1526 999,aN "__static_attributes__" 1527 1000,aN "__classcell__" 1528 952],
Ja 1002,
aL [],
fun _=>⟨.none,none,(.fields #[(.int 605 0),(.int 4 0),(.ref 962),(.int 608 0),(.int 4 0),(.ref 971),(.int 613 0),(.int 4 0),(.ref 977),(.int 630 0),(.int 4 0),(.ref 984),(.int 633 0),(.int 4 0),(.ref 991),(.int 636 0),(.int 4 0),(.ref 998)]),#[]⟩,
rP "ArithRewriter" 1462 603 953 181,
rQ 955 951 "minismt.rewrite" 1265,
aL [],
bw,
bF 1475 ["self","t","args"]]
noncomputable def Oh:List OB:=[aL [],
bX 47 0 "ArithRewriter.made",
bL "made" 1472 "ArithRewriter.made" 605 3 957 1478 1479,
b9 47 0 "ArithRewriter.made" "minismt.rewrite" 1265 962,
Ka,
aL [(.ref 952)],
bF 1485 ["__class__"],
bw,
bF 1486 ["self","a","b","deep"],
aL [],
bX 47 1 "ArithRewriter.equal_others",
bL "equal_others" 1482 "ArithRewriter.equal_others" 608 4 966 1490 1491,
Kb,
Kc,
aL [],
bw,
bX 47 2 "ArithRewriter.equal_numbers",
nj "equal_numbers" 1494 "ArithRewriter.equal_numbers" 613 4 974,
Oa,
aL [],
bw,
bF 1503 ["self","op","a","b"],
aL [],
bX 47 3 "ArithRewriter.compared",
bL "compared" 1500 "ArithRewriter.compared" 630 4 979 1507 1508,
b9 47 3 "ArithRewriter.compared" "minismt.rewrite" 1265 984,
aL [],
bw,
bF 1513 ["self","row","sort"],
aL [],
bX 47 4 "ArithRewriter.compared_row",
bL "compared_row" 1510 "ArithRewriter.compared_row" 633 3 986 1516 1517,
b9 47 4 "ArithRewriter.compared_row" "minismt.rewrite" 1265 991,
aL [],
bw,
bF 1522 ["self","t"],
aL [],
bX 47 5 "ArithRewriter.summed",
bL "summed" 1519 "ArithRewriter.summed" 636 2 993 1524 1525,
b9 47 5 "ArithRewriter.summed" "minismt.rewrite" 1265 998,
aL [],
ja 3 [bW "__module__" 1467 (.str "minismt.rewrite" 1265),bW "__firstlineno__" 1471 (.int 603 1470),aN "made" 1480 963,aN "equal_others" 1492 972,aN "equal_numbers" 1499 978,aN "compared" 1509 985,aN "compared_row" 1518 992,aN "summed" 1526 999,aN "__static_attributes__" 1527 1000,bW "__doc__" 1529 .none],
fun _=>⟨(.type "type"),none,(.cls ⟨"ArithRewriter",[(.ref 944)],[(.ref 1002),(.ref 944),(.type "object")],1001,"ArithRewriter",true,[],[],false,none,false⟩),#[(some (.ref 949)),none,(some (.str "ArithRewriter" 1460)),(some (.str "ArithRewriter" 1468)),(some (.builtin "object.__new__")),(some (.bool true))]⟩,
p7 1002,
p8 1002,
aL [],
bw,
ga 49 "_law_feed",
nj "_law_feed" 1534 "_law_feed" 639 1 1005,
Gm,
aL [],
bw,
bF 1543 ["feed","top","cells","place"],
aL [],
ga 50 "_law_dip",
bL "_law_dip" 1540 "_law_dip" 641 2 1010 1547 1548,
Gn,
aL [],
bw,
bF 1553 ["sort","number"]]
noncomputable def Oi:List OB:=[aL [],
ga 51 "_law_halves",
bL "_law_halves" 1550 "_law_halves" 647 2 1017 1555 1556,
Go,
aL [],
bw,
ga 52 "_law_parted",
nj "_law_parted" 1558 "_law_parted" 651 2 1024,
Gp,
aL [],
bw,
ga 53 "_law_side",
nj "_law_side" 1564 "_law_side" 654 4 1029,
Gq,
aL [],
bw,
bF 1573 ["one","other"],
aL [],
ga 54 "_law_times",
bL "_law_times" 1570 "_law_times" 657 2 1034 1575 1576,
Gr,
aL [],
bw,
bF 1581 ["one","other"],
aL [],
ga 55 "_law_plus",
bL "_law_plus" 1578 "_law_plus" 659 2 1041 1583 1584,
Gs,
aL [],
bw,
ga 56 "_law_worth",
nj "_law_worth" 1586 "_law_worth" 661 3 1048,
Mq,
aL [],
bw,
ga 57 "_law_worlds",
nj "_law_worlds" 1592 "_law_worlds" 682 4 1053,
Gu,
aL [],
bw,
bF 1601 ["bank","unknowns","sort","ask","row","formula","world","total","one","often"],
aL [],
ga 58 "_law_is_meant",
bL "_law_is_meant" 1598 "_law_is_meant" 688 6 1058 1611 1612,
Gv,
aL [],
bw,
ga 59 "_law_sort_of",
nj "_law_sort_of" 1614 "_law_sort_of" 696 2 1065,
Gw,
aL [],
bw,
ga 60 "_law_say_one",
nj "_law_say_one" 1620 "_law_say_one" 704 3 1070,
Gx,
aL [],
bw,
ga 61 "law",
nj "law" 1626 "law" 709 1 1075,
Gy]
noncomputable def oo:List OB:=OQ++OS++OT++OU++OV++OW++OX++OY++OZ++O0++Ob++Oc++Od++Oe++Of++Og++Oh++Oi
noncomputable def Ny(l:List OB)(P:Sp):List Obj:=l.map fun o=>o P
noncomputable def Nz:List Obj→List Obj
 | a::_::l=>a::Nz l
 | l=>l
noncomputable def NA:List Obj→List Obj
 | _::b::l=>b::NA l
 | _=>[]
noncomputable def Gz:Nat→List Obj→BT
 | n+1,a::l=>.node a (Gz n (Nz l)) (Gz n (NA l))
 | _,_=>.nil
noncomputable def O1:List OB:=[oo.getD 0 bw,oo.getD 1 bw,fun _=>⟨.none,none,(.dict #[] 0),#[]⟩,ja 9 [bW "__name__" 165 (.str "__main__" 164),bW "__doc__" 166 .none,bW "__package__" 167 .none,bW "__loader__" 168 (.builtin "__main__.__loader__#opaque"),bW "__spec__" 169 .none,aN "__annotations__" 170 6,aN "__builtins__" 171 4,bW "__file__" 173 (.str "/claim/cut.py" 172),bW "__cached__" 174 .none],oo.getD 4 bw,oo.getD 5 bw,oo.getD 6 bw,oo.getD 7 bw,oo.getD 8 bw,oo.getD 9 bw,oo.getD 10 bw,oo.getD 11 bw,bw,oo.getD 13 bw,oo.getD 14 bw]
noncomputable def NB:Sp→List Obj:=Ny O1
noncomputable def A7:Sp→List Obj:=Ny oo
noncomputable def O2(P:Sp):BT:=Gz 9 (NB P)
noncomputable def Kd(P:Sp):BT:=Gz 12 (A7 P)
noncomputable def H0(P:Sp):Heap:=⟨⟨NB P⟩,{}⟩
noncomputable def H1(P:Sp):Heap:=⟨⟨A7 P⟩,{}⟩
noncomputable def EX:Env:={ scope:=pw.main.scope,locals:=mainNs,globals:=mainNs,cells:=[],code:=.ref 13,frame:=some 14 }
noncomputable def qX:Code:=.body (UK pw) EX
noncomputable abbrev B0:List Frame:=[topFrame ⟨0,0,0,0⟩]
noncomputable abbrev A8:Option QM:=some (.ref 6)
noncomputable abbrev T0(w:World)(os:VC):SharedT:=⟨O2 w.params,15,{},S7 [],{},187,os⟩
noncomputable abbrev T1(w:World)(os:VC):SharedT:=⟨Kd w.params,1080,{},S7 [],{},1632,os⟩
noncomputable abbrev BX:Pos:=⟨0,0,0,0⟩
noncomputable abbrev Ke:Pos:=⟨709,0,738,73⟩
theorem EY:∀ (w:World),(fun os=>segRunT T9 pw w 11 A8 1 6682 (T0 w os) (piecesOf (UK pw) EX qX BX B0))=fun os=>some (.next,T1 w os,qX,Ke):=by
 intro w
 rw[PySem.W.Fast.te10110043849684766642,RM]
 kernel_rfl
theorem Hx:∀ (w:World),(fun os=>topGo T9 pw w 11 A8 12 ⟨TD w.params,S7 [],WL,W6,os⟩ (topStub pw))=fun os=>some (⟨H0 w.params,S7 [],{},187,os⟩,⟨denote T9 qX,qX,BX,B0⟩):=by
 intro w
 rw[PySem.W.Fast.te15667345088766844465,RM,PySem.W.Fast.te11892475500146522536]
 kernel_rfl
theorem Dj:∀ (w:World),(fun os=>segRun T9 pw w 11 A8 1 1 ⟨H0 w.params,S7 [],{},187,os⟩ (blockOf (UK pw) EX qX BX B0))=fun os=>some (.next,(T0 w os).abs,qX,BX):=by
 intro w
 rw[PySem.W.Fast.te14374325043358763698,RM]
 kernel_rfl
theorem Hy:∀ (w:World),(fun os=>topRun T9 pw w 11 A8 2 (T1 w os).abs ⟨doneF .next,qX,Ke,B0⟩)=fun os=>some ⟨H1 w.params,S7 [],{},1632,os⟩:=by
 intro w
 rw[PySem.W.Fast.te14082659384304107361,RM]
 kernel_rfl
end
noncomputable section
theorem Mt:∀ w:World,(fencedOpening T9 pw w 13500).map (fun s=>(s.heap,s.gens,s.drawn,s.toks))=some (TD w.params,S7 [],WL,W6) :=
 boot_open (by kernel_rfl) (by decide +kernel) (fun s=>by kernel_rfl)
theorem Mu:∀ w:World,((TD w.params).isNs Q9&&(S7 []:Array GenState).size==0,(TD w.params).objs.size,(TD w.params).nsMap Q9 "__annotations__")=(true,11,A8):=by
 intro w
 kernel_rfl
theorem Hz:∀ (w:World) (os:VC),topRun T9 pw w 11 A8 (12+(1+(6682+2))) ⟨TD w.params,S7 [],WL,W6,os⟩ (topStub pw)=some ⟨H1 w.params,S7 [],{},1632,os⟩:=by
 intro w os
 refine go_top (congrFun (Hx w) os) (piece_block (congrFun (Dj w) os) ?_)
 have h:=piece_app (rest:=[]) (segRun_of (congrFun (EY w) os)) (piece_nil (congrFun (Hy w) os))
 rw[SX] at h
 exact h
noncomputable def qv:Uv:={ pw with main:={ pw.main with body:=[w9 61] } }
noncomputable def lv:List Str:=(["_wall","SmtError","SortFault","LimitFault","ZERO","ONE_ratios","MINUS_ONE_ratios","gcd_of","lcm_of","ratio","add","neg","mul","div","compare"]:List Str)++(["is_whole","BOOL","INT","REAL","MOST_BITS","VALUE_OPS","Bank","BoolBank","want_small","NumberBank","TermBank","LinearForm","form_of","difference_of","row_of_form"]:List Str)++(["scaled_row","whole_factor","whole_row","has_whole_terms","row_truth","is_hopeless","term_of_form","atom_of_row","ONE_rewrite","MINUS_ONE_rewrite","DEEPEST","BoolRewriter","ArithRewriter","_law_feed","_law_dip"]:List Str)++(["_law_halves","_law_parted","_law_side","_law_times","_law_plus","_law_worth","_law_worlds","_law_is_meant","_law_sort_of","_law_say_one"]:List Str)
theorem Mv:∀ (w:World) (os:VC),(staticsOk (importedModules pw.main.body) (TD w.params) (H1 w.params)&&namesBound pw (H1 w.params)&&gensDone ⟨H1 w.params,S7 [],{},1632,os⟩&&laidKept (TD w.params) (H1 w.params))=true:=by
 intro w os
 kernel_rfl
theorem Mw:∀ (w:World) (os:VC),openSeen qv lv (importedModules pw.main.body) (fun _=>true) true ⟨H1 w.params,S7 [],{},1632,os⟩=openGood qv lv:=by
 intro w os
 rw[PySem.W.Fast.te4187177175401517315]
 kernel_rfl
end
noncomputable section
noncomputable def A9:List Addr:=[2,3,20,21,25,36,37,43,44,46,47,63,64,66,67,82,83,85,86,89,90,91,97,98,104,105,111,112,118,119,125,126,132,133,139,140,146,147,153,154,155,168,169,175,176,182,183,189,190,196,197,203,204,210,211,217,218,224,225,231,232,238,239,245,246,252,253,259,260,266,267,273,274,280,281,287,288,294,295,301,302,308,309,315,316,322,323,329,330,336,337,343,344,350,351,357,358,364,365,367,368,385,386,392,393,399,400,406,407,413,414,420,421,427,428,434,435,441,442,448,449,455,456,462,463,469,470,472,473,481,482,495,496,502,503,509,510,516,517,523,524,530,531,537,538,544,545,551,552,558,559,565,566,568,569,575,586,587,593,594,600,601,607,608,614,615,621,622,628,629,635,636,642,643,649,650,656,657,663,664,670,671,677,678,684,685,687,688,703,704,710,711,717,718,724,725,729,730,736,737,739,740,750,751,757,758,764,765,769,770,776,777,783,784,790,791,797,798,804,805,811,812,818,819,820,821,834,835,841,842,848,849,855,856,860,861,867,868,874,875,881,882,888,889,895,896,902,903,904,910,911,912,918,919,920,926,927,933,934,940,941,943,944,952,962,963,964,971,972,973,977,978,984,985,991,992,998,999,1001,1002,1008,1009,1015,1016,1022,1023,1027,1028,1032,1033,1039,1040,1046,1047,1051,1052,1056,1057,1063,1064,1068,1069,1073,1074,1078,1079]
noncomputable def KF(P:Sp):Frag:=A9.map fun a=>(a,oo.getD a bw P)
theorem Kf:∀ P,H1 P=absHeap (Kd P) 1080 {}:=fun P=>by kernel_rfl
theorem Kg:∀ P,(KF P).map (fun p=>(Nat.blt p.1 1080,(Kd P).get p.1,alive p.2))=(KF P).map fun p=>(true,some p.2,some p.2):=fun P=>by kernel_rfl
theorem Mx(P:Sp):∀ p∈KF P,(H1 P).get? p.1=some p.2:=by
 intro p hp
 have h:=SD.mp (Kg P) p hp
 simp only[VN] at h
 rw[Kf,abs_get (Nat.le_of_ble_eq_true h.1) h.2.1,h.2.2]
theorem My:∀ (w:World) (os:VC),(KF w.params).map (fun p=>(H1 w.params).get? p.1)=(KF w.params).map fun p=>some p.2:=by
 intro w os
 exact Sg (Mx w.params)
theorem Dk:∀ P,A9=(KF P).map (·.1):=fun P=>by kernel_rfl
theorem Kh:∀ (w:World) (os:VC),A9.map (H1 w.params).get?=(KF w.params).map fun p=>some p.2:=by
 intro w os
 rw[Dk w.params,Ra]
 exact My w os
theorem Mz:LeftO pw qv lv (fun _=>true) (fun s=>A9.map s.heap.get?) (fun w=>(KF w.params).map fun p=>some p.2) 13500 :=
 LeftO.of_pieces (H₁:=H1) Mt Mu Hz (by decide +kernel) fun w=>funext fun os=>looks_pair (Mv w os) (looks_pair (Mw w os) (Kh w os))
noncomputable def O4:DefRec:={ name:="",params:=⟨[],[],none,[],[],none,[]⟩,body:=[],scope:=Ts,pos:=Ts }
noncomputable def EZ:DefRec:=by
 cases w9 61 with
 | FunctionDef name args body _ _ _ scope _ _ pos=>exact { name,params:=args,body,scope,pos }
 | _=>exact O4
theorem MA:RN.wellSaid=true:=by
 rw[PySem.W.Fast.te9446332074065402090]
 kernel_rfl
abbrev sf:OpenRow:=RN.row
theorem Oj:sf.toRowW.promised:=by
 w_witness2
theorem Ki(call:WalkO qv lv (fun _ _=>True) (InK KF) sf.toRowW EZ [] (fun f vs=>PySem.call f vs)):RN.Holds:=by
 refine holds_law MA fun said=>?_
 refine PySem.W.holds_open (q:=qv) (loose:=lv) (Xt:=fun _=>true) (XP:=fun _ _=>True) (Yf:=fun s=>A9.map s.heap.get?) (Ya:=fun w=>(KF w.params).map fun p=>some p.2) (YP:=InK KF) (d:=EZ) (kwd:=[]) (N:=13500) (show LeftO sf.prog qv lv (fun _=>true) (fun s=>A9.map s.heap.get?) (fun w=>(KF w.params).map fun p=>some p.2) 13500 from Mz) (InK.of Dk) InK.keeps (fun _ _=>trivial) (fun _ _ _ _ _=>trivial) (by kernel_rfl) (by kernel_rfl) (by kernel_rfl) (fun _ _=>recFacts_nil rfl) (by kernel_rfl) said (by decide +kernel) ⟨rfl,rfl,rfl,rfl,rfl,by decide +kernel⟩ Oj call
end
theorem dK{p:Prop}(h:none=some a):p:=nomatch h
theorem nA{a b c:Nat}(h:a≤b:=by assumption)(k:b≤c:=by decide):a≤c:=QH h k
theorem nB{a b c:Nat}(h:b+a≤c:=by assumption):a≤c:=QH (Sx _ _) h
theorem nC{a b c:Nat}(h:a≤b:=by assumption)(k:b<c:=by decide):a<c:=Sa h k
theorem nD{a b c:Int}(h:a≤b:=by assumption)(k:b≤c:=by decide):a≤c:=Rk h k
theorem kR{x:Int}{n:Nat}:x.natAbs≤n ↔ -(n:Int)≤x∧x≤n:=by omega
theorem zs{a b A x:Int}(h:a<x∧x<b:=by assumption)(k:A≤a:=by decide):A<x:=RC k h.1
theorem zt{a b B x:Int}(h:a<x∧x<b:=by assumption)(k:b≤B:=by decide):x<B:=Uc h.2 k
theorem E1(x:Int):(if x<0 then -x else x)=(x.natAbs:Int):=by omega
theorem zA{a b A B x:Int}(h:a≤x∧x≤b:=by assumption)(h1:A≤a:=by decide)(h2:b≤B:=by decide):A≤x∧x≤B:=⟨Rk h1 h.1,Rk h.2 h2⟩
theorem zB{a b A B x:Int}(h:a≤x∧x≤b:=by assumption)(h1:A<a:=by decide)(h2:b<B:=by decide):A<x∧x<B:=⟨Uc h1 h.1,RC h.2 h2⟩
theorem zC{c y a b:Int}(h:c<y∧y≤a:=by assumption)(k:a≤b:=by decide):c<y∧y≤b:=⟨h.1,Rk h.2 k⟩
theorem zD{c y a b:Int}(h:c<y∧y≤a:=by assumption)(k:a<b:=by decide):c<y∧y<b:=⟨h.1,RC h.2 k⟩
theorem zE{a b A x:Int}(h:a≤x∧x≤b:=by assumption)(h1:A≤a:=by decide):A≤x:=Rk h1 h.1
theorem zF{a b B x:Int}(h:a≤x∧x≤b:=by assumption)(h2:b≤B:=by decide):x≤B:=Rk h.2 h2
theorem zG{a b A x:Int}(h:a≤x∧x≤b:=by assumption)(h1:A<a:=by decide):A<x:=Uc h1 h.1
theorem zH{a b B x:Int}(h:a≤x∧x≤b:=by assumption)(h2:b<B:=by decide):x<B:=RC h.2 h2
theorem zK{y:Int}{D:Nat}(h:0<y∧y≤(D:Int):=by assumption):y.natAbs≤D:=by have:=h.1;have:=h.2;omega
theorem zL{y a:Int}{E:Nat}(h:0<y∧y≤a:=by assumption)(k:a<(E:Int):=by decide):y.natAbs<E:=by have:=h.1;have:=h.2;omega
theorem O7{y a:Int}{E:Nat}(h:0≤y∧y≤a:=by assumption)(k:a<(E:Int):=by decide):y.natAbs<E:=by have:=h.1;have:=h.2;omega
theorem zM{y:Int}(h:0<y:=by assumption):0<y.natAbs:=WM.mpr (Tt h)
theorem zN{y:Int}(h:¬ y=0:=by assumption):0<y.natAbs:=WM.mpr h
theorem zO{y A B:Int}{D:Nat}(h:y.natAbs≤D:=by assumption)(h1:A ≤ -(D:Int):=by decide)(h2:(D:Int)≤B:=by decide):A≤y∧y≤B:=zA (kR.mp h) h1 h2
theorem zP{y A B:Int}{D:Nat}(h:y.natAbs≤D:=by assumption)(h1:A < -(D:Int):=by decide)(h2:(D:Int)<B:=by decide):A<y∧y<B:=zB (kR.mp h) h1 h2
theorem zQ{y B:Int}{D:Nat}(h:y.natAbs≤D:=by assumption)(h2:(D:Int)<B:=by decide):y<B:=zH (kR.mp h) h2
theorem zR{y A:Int}{D:Nat}(h:y.natAbs≤D:=by assumption)(h1:A < -(D:Int):=by decide):A<y:=zG (kR.mp h) h1
theorem O8{y A B:Int}{D:Nat}{p:Prop}(h:y.natAbs≤D∧p:=by assumption)(h1:A ≤ -(D:Int):=by decide)(h2:(D:Int)≤B:=by decide):A≤y∧y≤B:=zO h.1 h1 h2
theorem O9{y A B:Int}{D:Nat}{p:Prop}(h:y.natAbs≤D∧p:=by assumption)(h1:A < -(D:Int):=by decide)(h2:(D:Int)<B:=by decide):A<y∧y<B:=zP h.1 h1 h2
theorem Pa{c y a b:Int}{p:Prop}(h:p∧c<y∧y≤a:=by assumption)(k:a≤b:=by decide):c<y∧y≤b:=zC h.2 k
theorem Pb{c y a b:Int}{p:Prop}(h:p∧c<y∧y≤a:=by assumption)(k:a<b:=by decide):c<y∧y<b:=zD h.2 k
theorem zV{q:Int}{E:Nat}(h:q=1∨q=2:=by assumption)(k:2<E:=by decide):q.natAbs<E:=by rcases h with rfl | rfl<;>omega
theorem Pc{q a b:Int}{E:Nat}(h:q=a∨q=b:=by assumption)(k:a.natAbs<E:=by decide)(l:b.natAbs<E:=by decide):q.natAbs<E:=by rcases h with rfl | rfl<;>assumption
theorem Pd{q a b B:Int}(h:q=a∨q=b:=by assumption)(k:0<a∧a≤B:=by decide)(l:0<b∧b≤B:=by decide):0<q∧q≤B:=by rcases h with rfl | rfl<;>assumption
theorem Km{q a b:Int}(h:q=a∨q=b:=by assumption)(k:a≠0:=by decide)(l:b≠0:=by decide):q≠0:=by rcases h with rfl | rfl<;>assumption
theorem zX{j n c e:Nat}(k:n≤c:=by assumption)(w:c<e:=by decide):min j n<e:=Sa (UL ..) (Sa k w)
theorem Pf{j n e:Nat}(w:n<e:=by decide):min j n<e:=Sa (UL ..) w
theorem Kn{j n c e:Nat}(k:n≤c:=by assumption)(w:c≤e:=by decide):min j n≤e:=QH (UL ..) (QH k w)
theorem zY{b j:Nat}(k:j<b:=by assumption):j≤b - 1:=Nat.le_sub_one_of_lt k
theorem NC{n:Nat}(k:0<n:=by assumption):n - 1<n:=Nat.sub_one_lt (V1 k)
theorem Pi{n m:Nat}(k:m+1≤n:=by assumption):n=n - 1+1:=(Nat.sub_add_cancel (QH (Sx _ _) k)).symm
theorem Pj{n:Nat}(k:1≤n:=by assumption):1+(n - 1)=n:=Nat.add_sub_cancel' k
theorem Pk{n a:Nat}(k:0<n:=by assumption)(h:a≤n - 1:=by assumption):a<n:=Sa h (NC k)
theorem zd{a b c d e:Nat}(h:a≤b+c:=by assumption)(k:b≤d:=by assumption)(w:d+c≤e:=by decide):a≤e:=QH h (QH (Sd k c) w)
theorem yq{a b c d e:Nat}{p:Prop}(h:p∧a≤b+c:=by assumption)(k:b≤d:=by assumption)(w:d+c≤e:=by decide):a≤e:=zd h.2 k w
theorem ze{a b c d e f g:Nat}(h:a≤b+c:=by assumption)(k:b≤d+e:=by assumption)(l:d≤f:=by assumption)(w:f+e+c≤g:=by decide):a≤g:=zd h (QH k (Sd l e)) w
theorem Pl{a b c d e f g:Nat}{p:Prop}(h:p∧a≤b+c:=by assumption)(k:b≤d+e:=by assumption)(l:d≤f:=by assumption)(w:f+e+c≤g:=by decide):a≤g:=ze h.2 k l w
theorem zf{a b c d:Nat}(h:a≤b:=by assumption)(k:b≤c:=by assumption)(w:c≤d:=by decide):a≤d:=QH h (QH k w)
theorem zg{a b c d:Int}(h:a≤b:=by assumption)(k:b≤c:=by assumption)(w:c<d:=by decide):a<d:=RC h (RC k w)
theorem zh{n:Int}(h:¬ n % 2=0:=by assumption):¬ -n % 2=0:=by omega
theorem ND{n:Int}(h:n % 2=0:=by assumption): -n % 2=0:=by omega
theorem zi{a x b y:Int}(h : -a≤x∧x≤a:=by assumption)(k : -b≤y∧y≤b:=by assumption): -(a+b)≤x+y∧x+y≤a+b:=by omega
theorem zk{b c:Int}(h:0≤b∧b≤c:=by assumption):(b.toNat:Int)=b - 0:=by omega
theorem zm{j n c:Nat}(k:n≤c:=by assumption)(h:j<n:=by assumption):j<c:=VS h k
theorem cE(h:some a=some b):a=b:=Rr h
theorem dg(h:some (a,b)=some (c,d)):a=c∧b=d:=Wz (Rr h)
theorem jp(h:some (a,b,e)=some (c,d,f)):a=c∧b=d∧e=f:=⟨(dg h).1,Wz (dg h).2⟩
noncomputable def q1{A B:Type}(x:A×B):A:=x.1
noncomputable def q2{A B:Type}(x:A×B):A:=x.1
noncomputable def q3{A B:Type}(x:A×B):A:=x.1
noncomputable def q4{A B:Type}(x:A×B):A:=x.1
noncomputable def q5{A B:Type}(x:A×B):A:=x.1
noncomputable def q6{A B:Type}(x:A×B):A:=x.1
noncomputable def q7{A B:Type}(x:A×B):A:=x.1
noncomputable def q8{A B:Type}(x:A×B):A:=x.1
noncomputable def q9{A B:Type}(x:A×B):A:=x.1
noncomputable def lI{A B:Type}(x:A×B):A:=x.1
noncomputable def qx{A B:Type}(x:A×B):A:=x.1
noncomputable def qe{A:Type}(x:A):A:=x
noncomputable def qr{A B:Type}(x:A×B):B:=x.2
noncomputable def k1{A:Type}(i:Nonempty (A))(P:A→Prop):A:=@Rl _ i fun x=>¬P (qe x)
theorem NE{P:A→Prop}(i:Nonempty (A))(h:P (qe (k1 i P))):∀ a,P a:=fun a=>QG fun n=>@Q0 _ i (fun x=>¬P (qe x)) ⟨(a),n⟩ h
noncomputable def k2{A B:Type}(i:Nonempty (A×B))(P:A→B→Prop):A×B:=@Rl _ i fun x=>¬P (q1 x) (qe (qr x))
noncomputable def k3{A B C:Type}(i:Nonempty (A×B×C))(P:A→B→C→Prop):A×B×C:=@Rl _ i fun x=>¬P (q1 x) (q2 (qr x)) (qe (qr (qr x)))
theorem kT{P:A→B→C→Prop}(i:Nonempty (A×B×C))(h:P (q1 (k3 i P)) (q2 (qr (k3 i P))) (qe (qr (qr (k3 i P))))):∀ a b c,P a b c:=fun a b c=>QG fun n=>@Q0 _ i (fun x=>¬P (q1 x) (q2 (qr x)) (qe (qr (qr x)))) ⟨(a,b,c),n⟩ h
noncomputable def k4{A B C D:Type}(i:Nonempty (A×B×C×D))(P:A→B→C→D→Prop):A×B×C×D:=@Rl _ i fun x=>¬P (q1 x) (q2 (qr x)) (q3 (qr (qr x))) (qe (qr (qr (qr x))))
theorem Kp{P:A→B→C→D→Prop}(i:Nonempty (A×B×C×D))(h:P (q1 (k4 i P)) (q2 (qr (k4 i P))) (q3 (qr (qr (k4 i P)))) (qe (qr (qr (qr (k4 i P)))))):∀ a b c d,P a b c d:=fun a b c d=>QG fun n=>@Q0 _ i (fun x=>¬P (q1 x) (q2 (qr x)) (q3 (qr (qr x))) (qe (qr (qr (qr x))))) ⟨(a,b,c,d),n⟩ h
noncomputable def k5{A B C D E:Type}(i:Nonempty (A×B×C×D×E))(P:A→B→C→D→E→Prop):A×B×C×D×E:=@Rl _ i fun x=>¬P (q1 x) (q2 (qr x)) (q3 (qr (qr x))) (q4 (qr (qr (qr x)))) (qe (qr (qr (qr (qr x)))))
theorem GA{P:A→B→C→D→E→Prop}(i:Nonempty (A×B×C×D×E))(h:P (q1 (k5 i P)) (q2 (qr (k5 i P))) (q3 (qr (qr (k5 i P)))) (q4 (qr (qr (qr (k5 i P))))) (qe (qr (qr (qr (qr (k5 i P))))))):∀ a b c d e,P a b c d e:=fun a b c d e=>QG fun n=>@Q0 _ i (fun x=>¬P (q1 x) (q2 (qr x)) (q3 (qr (qr x))) (q4 (qr (qr (qr x)))) (qe (qr (qr (qr (qr x)))))) ⟨(a,b,c,d,e),n⟩ h
noncomputable def k6{A B C D E F:Type}(i:Nonempty (A×B×C×D×E×F))(P:A→B→C→D→E→F→Prop):A×B×C×D×E×F:=@Rl _ i fun x=>¬P (q1 x) (q2 (qr x)) (q3 (qr (qr x))) (q4 (qr (qr (qr x)))) (q5 (qr (qr (qr (qr x))))) (qe (qr (qr (qr (qr (qr x))))))
theorem u4{P:A→B→C→D→E→F→Prop}(i:Nonempty (A×B×C×D×E×F))(h:P (q1 (k6 i P)) (q2 (qr (k6 i P))) (q3 (qr (qr (k6 i P)))) (q4 (qr (qr (qr (k6 i P))))) (q5 (qr (qr (qr (qr (k6 i P)))))) (qe (qr (qr (qr (qr (qr (k6 i P)))))))):∀ a b c d e f,P a b c d e f:=fun a b c d e f=>QG fun n=>@Q0 _ i (fun x=>¬P (q1 x) (q2 (qr x)) (q3 (qr (qr x))) (q4 (qr (qr (qr x)))) (q5 (qr (qr (qr (qr x))))) (qe (qr (qr (qr (qr (qr x))))))) ⟨(a,b,c,d,e,f),n⟩ h
noncomputable def k7{A B C D E F G:Type}(i:Nonempty (A×B×C×D×E×F×G))(P:A→B→C→D→E→F→G→Prop):A×B×C×D×E×F×G:=@Rl _ i fun x=>¬P (q1 x) (q2 (qr x)) (q3 (qr (qr x))) (q4 (qr (qr (qr x)))) (q5 (qr (qr (qr (qr x))))) (q6 (qr (qr (qr (qr (qr x)))))) (qe (qr (qr (qr (qr (qr (qr x)))))))
theorem jV{P:A→B→C→D→E→F→G→Prop}(i:Nonempty (A×B×C×D×E×F×G))(h:P (q1 (k7 i P)) (q2 (qr (k7 i P))) (q3 (qr (qr (k7 i P)))) (q4 (qr (qr (qr (k7 i P))))) (q5 (qr (qr (qr (qr (k7 i P)))))) (q6 (qr (qr (qr (qr (qr (k7 i P))))))) (qe (qr (qr (qr (qr (qr (qr (k7 i P))))))))):∀ a b c d e f g,P a b c d e f g:=fun a b c d e f g=>QG fun n=>@Q0 _ i (fun x=>¬P (q1 x) (q2 (qr x)) (q3 (qr (qr x))) (q4 (qr (qr (qr x)))) (q5 (qr (qr (qr (qr x))))) (q6 (qr (qr (qr (qr (qr x)))))) (qe (qr (qr (qr (qr (qr (qr x)))))))) ⟨(a,b,c,d,e,f,g),n⟩ h
noncomputable def k8{A B C D E F G H:Type}(i:Nonempty (A×B×C×D×E×F×G×H))(P:A→B→C→D→E→F→G→H→Prop):A×B×C×D×E×F×G×H:=@Rl _ i fun x=>¬P (q1 x) (q2 (qr x)) (q3 (qr (qr x))) (q4 (qr (qr (qr x)))) (q5 (qr (qr (qr (qr x))))) (q6 (qr (qr (qr (qr (qr x)))))) (q7 (qr (qr (qr (qr (qr (qr x))))))) (qe (qr (qr (qr (qr (qr (qr (qr x))))))))
theorem mG{P:A→B→C→D→E→F→G→H→Prop}(i:Nonempty (A×B×C×D×E×F×G×H))(h:P (q1 (k8 i P)) (q2 (qr (k8 i P))) (q3 (qr (qr (k8 i P)))) (q4 (qr (qr (qr (k8 i P))))) (q5 (qr (qr (qr (qr (k8 i P)))))) (q6 (qr (qr (qr (qr (qr (k8 i P))))))) (q7 (qr (qr (qr (qr (qr (qr (k8 i P)))))))) (qe (qr (qr (qr (qr (qr (qr (qr (k8 i P)))))))))):∀ a b c d e f g j,P a b c d e f g j:=fun a b c d e f g j=>QG fun n=>@Q0 _ i (fun x=>¬P (q1 x) (q2 (qr x)) (q3 (qr (qr x))) (q4 (qr (qr (qr x)))) (q5 (qr (qr (qr (qr x))))) (q6 (qr (qr (qr (qr (qr x)))))) (q7 (qr (qr (qr (qr (qr (qr x))))))) (qe (qr (qr (qr (qr (qr (qr (qr x))))))))) ⟨(a,b,c,d,e,f,g,j),n⟩ h
noncomputable def k9{A B C D E F G H I:Type}(i:Nonempty (A×B×C×D×E×F×G×H×I))(P:A→B→C→D→E→F→G→H→I→Prop):A×B×C×D×E×F×G×H×I:=@Rl _ i fun x=>¬P (q1 x) (q2 (qr x)) (q3 (qr (qr x))) (q4 (qr (qr (qr x)))) (q5 (qr (qr (qr (qr x))))) (q6 (qr (qr (qr (qr (qr x)))))) (q7 (qr (qr (qr (qr (qr (qr x))))))) (q8 (qr (qr (qr (qr (qr (qr (qr x)))))))) (qe (qr (qr (qr (qr (qr (qr (qr (qr x)))))))))
theorem tX{P:A→B→C→D→E→F→G→H→I→Prop}(i:Nonempty (A×B×C×D×E×F×G×H×I))(h:P (q1 (k9 i P)) (q2 (qr (k9 i P))) (q3 (qr (qr (k9 i P)))) (q4 (qr (qr (qr (k9 i P))))) (q5 (qr (qr (qr (qr (k9 i P)))))) (q6 (qr (qr (qr (qr (qr (k9 i P))))))) (q7 (qr (qr (qr (qr (qr (qr (k9 i P)))))))) (q8 (qr (qr (qr (qr (qr (qr (qr (k9 i P))))))))) (qe (qr (qr (qr (qr (qr (qr (qr (qr (k9 i P))))))))))):∀ a b c d e f g j l,P a b c d e f g j l:=fun a b c d e f g j l=>QG fun n=>@Q0 _ i (fun x=>¬P (q1 x) (q2 (qr x)) (q3 (qr (qr x))) (q4 (qr (qr (qr x)))) (q5 (qr (qr (qr (qr x))))) (q6 (qr (qr (qr (qr (qr x)))))) (q7 (qr (qr (qr (qr (qr (qr x))))))) (q8 (qr (qr (qr (qr (qr (qr (qr x)))))))) (qe (qr (qr (qr (qr (qr (qr (qr (qr x)))))))))) ⟨(a,b,c,d,e,f,g,j,l),n⟩ h
noncomputable def tY{A B C D E F G H I J:Type}(i:Nonempty (A×B×C×D×E×F×G×H×I×J))(P:A→B→C→D→E→F→G→H→I→J→Prop):A×B×C×D×E×F×G×H×I×J:=@Rl _ i fun x=>¬P (q1 x) (q2 (qr x)) (q3 (qr (qr x))) (q4 (qr (qr (qr x)))) (q5 (qr (qr (qr (qr x))))) (q6 (qr (qr (qr (qr (qr x)))))) (q7 (qr (qr (qr (qr (qr (qr x))))))) (q8 (qr (qr (qr (qr (qr (qr (qr x)))))))) (q9 (qr (qr (qr (qr (qr (qr (qr (qr x))))))))) (qe (qr (qr (qr (qr (qr (qr (qr (qr (qr x))))))))))
theorem si{P:A→B→C→D→E→F→G→H→I→J→Prop}(i:Nonempty (A×B×C×D×E×F×G×H×I×J))(h:P (q1 (tY i P)) (q2 (qr (tY i P))) (q3 (qr (qr (tY i P)))) (q4 (qr (qr (qr (tY i P))))) (q5 (qr (qr (qr (qr (tY i P)))))) (q6 (qr (qr (qr (qr (qr (tY i P))))))) (q7 (qr (qr (qr (qr (qr (qr (tY i P)))))))) (q8 (qr (qr (qr (qr (qr (qr (qr (tY i P))))))))) (q9 (qr (qr (qr (qr (qr (qr (qr (qr (tY i P)))))))))) (qe (qr (qr (qr (qr (qr (qr (qr (qr (qr (tY i P)))))))))))):∀ a b c d e f g j l m,P a b c d e f g j l m:=fun a b c d e f g j l m=>QG fun n=>@Q0 _ i (fun x=>¬P (q1 x) (q2 (qr x)) (q3 (qr (qr x))) (q4 (qr (qr (qr x)))) (q5 (qr (qr (qr (qr x))))) (q6 (qr (qr (qr (qr (qr x)))))) (q7 (qr (qr (qr (qr (qr (qr x))))))) (q8 (qr (qr (qr (qr (qr (qr (qr x)))))))) (q9 (qr (qr (qr (qr (qr (qr (qr (qr x))))))))) (qe (qr (qr (qr (qr (qr (qr (qr (qr (qr x))))))))))) ⟨(a,b,c,d,e,f,g,j,l,m),n⟩ h
noncomputable def sj{A B C D E F G H I J L:Type}(i:Nonempty (A×B×C×D×E×F×G×H×I×J×L))(P:A→B→C→D→E→F→G→H→I→J→L→Prop):A×B×C×D×E×F×G×H×I×J×L:=@Rl _ i fun x=>¬P (q1 x) (q2 (qr x)) (q3 (qr (qr x))) (q4 (qr (qr (qr x)))) (q5 (qr (qr (qr (qr x))))) (q6 (qr (qr (qr (qr (qr x)))))) (q7 (qr (qr (qr (qr (qr (qr x))))))) (q8 (qr (qr (qr (qr (qr (qr (qr x)))))))) (q9 (qr (qr (qr (qr (qr (qr (qr (qr x))))))))) (lI (qr (qr (qr (qr (qr (qr (qr (qr (qr x)))))))))) (qe (qr (qr (qr (qr (qr (qr (qr (qr (qr (qr x)))))))))))
theorem Kr{P:A→B→C→D→E→F→G→H→I→J→L→Prop}(i:Nonempty (A×B×C×D×E×F×G×H×I×J×L))(h:P (q1 (sj i P)) (q2 (qr (sj i P))) (q3 (qr (qr (sj i P)))) (q4 (qr (qr (qr (sj i P))))) (q5 (qr (qr (qr (qr (sj i P)))))) (q6 (qr (qr (qr (qr (qr (sj i P))))))) (q7 (qr (qr (qr (qr (qr (qr (sj i P)))))))) (q8 (qr (qr (qr (qr (qr (qr (qr (sj i P))))))))) (q9 (qr (qr (qr (qr (qr (qr (qr (qr (sj i P)))))))))) (lI (qr (qr (qr (qr (qr (qr (qr (qr (qr (sj i P))))))))))) (qe (qr (qr (qr (qr (qr (qr (qr (qr (qr (qr (sj i P))))))))))))):∀ a b c d e f g j l m o,P a b c d e f g j l m o:=fun a b c d e f g j l m o=>QG fun n=>@Q0 _ i (fun x=>¬P (q1 x) (q2 (qr x)) (q3 (qr (qr x))) (q4 (qr (qr (qr x)))) (q5 (qr (qr (qr (qr x))))) (q6 (qr (qr (qr (qr (qr x)))))) (q7 (qr (qr (qr (qr (qr (qr x))))))) (q8 (qr (qr (qr (qr (qr (qr (qr x)))))))) (q9 (qr (qr (qr (qr (qr (qr (qr (qr x))))))))) (lI (qr (qr (qr (qr (qr (qr (qr (qr (qr x)))))))))) (qe (qr (qr (qr (qr (qr (qr (qr (qr (qr (qr x)))))))))))) ⟨(a,b,c,d,e,f,g,j,l,m,o),n⟩ h
noncomputable def rS{A B C D E F G H I J L M:Type}(i:Nonempty (A×B×C×D×E×F×G×H×I×J×L×M))(P:A→B→C→D→E→F→G→H→I→J→L→M→Prop):A×B×C×D×E×F×G×H×I×J×L×M:=@Rl _ i fun x=>¬P (q1 x) (q2 (qr x)) (q3 (qr (qr x))) (q4 (qr (qr (qr x)))) (q5 (qr (qr (qr (qr x))))) (q6 (qr (qr (qr (qr (qr x)))))) (q7 (qr (qr (qr (qr (qr (qr x))))))) (q8 (qr (qr (qr (qr (qr (qr (qr x)))))))) (q9 (qr (qr (qr (qr (qr (qr (qr (qr x))))))))) (lI (qr (qr (qr (qr (qr (qr (qr (qr (qr x)))))))))) (qx (qr (qr (qr (qr (qr (qr (qr (qr (qr (qr x))))))))))) (qe (qr (qr (qr (qr (qr (qr (qr (qr (qr (qr (qr x))))))))))))
theorem p9{P:A→B→C→D→E→F→G→H→I→J→L→M→Prop}(i:Nonempty (A×B×C×D×E×F×G×H×I×J×L×M))(h:P (q1 (rS i P)) (q2 (qr (rS i P))) (q3 (qr (qr (rS i P)))) (q4 (qr (qr (qr (rS i P))))) (q5 (qr (qr (qr (qr (rS i P)))))) (q6 (qr (qr (qr (qr (qr (rS i P))))))) (q7 (qr (qr (qr (qr (qr (qr (rS i P)))))))) (q8 (qr (qr (qr (qr (qr (qr (qr (rS i P))))))))) (q9 (qr (qr (qr (qr (qr (qr (qr (qr (rS i P)))))))))) (lI (qr (qr (qr (qr (qr (qr (qr (qr (qr (rS i P))))))))))) (qx (qr (qr (qr (qr (qr (qr (qr (qr (qr (qr (rS i P)))))))))))) (qe (qr (qr (qr (qr (qr (qr (qr (qr (qr (qr (qr (rS i P)))))))))))))):∀ a b c d e f g j l m o p,P a b c d e f g j l m o p:=fun a b c d e f g j l m o p=>QG fun n=>@Q0 _ i (fun x=>¬P (q1 x) (q2 (qr x)) (q3 (qr (qr x))) (q4 (qr (qr (qr x)))) (q5 (qr (qr (qr (qr x))))) (q6 (qr (qr (qr (qr (qr x)))))) (q7 (qr (qr (qr (qr (qr (qr x))))))) (q8 (qr (qr (qr (qr (qr (qr (qr x)))))))) (q9 (qr (qr (qr (qr (qr (qr (qr (qr x))))))))) (lI (qr (qr (qr (qr (qr (qr (qr (qr (qr x)))))))))) (qx (qr (qr (qr (qr (qr (qr (qr (qr (qr (qr x))))))))))) (qe (qr (qr (qr (qr (qr (qr (qr (qr (qr (qr (qr x))))))))))))) ⟨(a,b,c,d,e,f,g,j,l,m,o,p),n⟩ h
theorem nI[h:Nonempty A]:Nonempty A:=h
theorem bi(a:Nonempty A)(b:Nonempty B):Nonempty (A×B):=a.elim fun x=>b.elim fun y=>⟨(x,y)⟩
theorem Pn:Nonempty Sp:=⟨{ strHash:=fun _=>0,shareClass:=fun _=>0,mergeTok:=fun t=>t,idOf:=fun _=>0,idOfShared:=fun _ _=>0,followText:=fun _=>true,idOfImm:=fun _=>0 }⟩
theorem yr:Nonempty World:=Pn.elim fun p=>⟨⟨fun _ _=>0,p⟩⟩
theorem kL:Nonempty QR:=⟨{}⟩
theorem qy:Nonempty R7:=⟨{}⟩
theorem Po:Nonempty QC:=⟨.none⟩
theorem Pp:Nonempty Model:=yr.elim fun w=>⟨⟨denote table,Ts,w⟩⟩
theorem cps{p:Prop}(h:∀ G:Prop,(p→G)→G):p:=h p id
theorem bA{G:Prop}(h:P0∧P1)(k:P0→P1→G):G:=k h.1 h.2
theorem iL{G:Prop}(h:P0∧P1∧P2)(k:P0→P1→P2→G):G:=k h.1 h.2.1 h.2.2
theorem Dm{G:Prop}(h:P0∧P1∧P2∧P3)(k:P0→P1→P2→P3→G):G:=k h.1 h.2.1 h.2.2.1 h.2.2.2
theorem NF{G:Prop}(h:P0∧P1∧P2∧P3∧P4)(k:P0→P1→P2→P3→P4→G):G:=k h.1 h.2.1 h.2.2.1 h.2.2.2.1 h.2.2.2.2
theorem bM{P0:A0→Prop}{G:Prop}(h:∃ a,P0 a)(k:∀ a,P0 a→G):G:=h.elim fun a h=>k a h
theorem aH{P0 P1:A0→Prop}{G:Prop}(h:∃ a,P0 a∧P1 a)(k:∀ a,P0 a→P1 a→G):G:=h.elim fun a h=>k a h.1 h.2
theorem d9{P0 P1 P2:A0→Prop}{G:Prop}(h:∃ a,P0 a∧P1 a∧P2 a)(k:∀ a,P0 a→P1 a→P2 a→G):G:=h.elim fun a h=>k a h.1 h.2.1 h.2.2
theorem GB{P0 P1 P2 P3:A0→Prop}{G:Prop}(h:∃ a,P0 a∧P1 a∧P2 a∧P3 a)(k:∀ a,P0 a→P1 a→P2 a→P3 a→G):G:=h.elim fun a h=>k a h.1 h.2.1 h.2.2.1 h.2.2.2
theorem jW{P0:A0→A1→Prop}{G:Prop}(h:∃ a b,P0 a b)(k:∀ a b,P0 a b→G):G:=h.elim fun a h=>h.elim fun b h=>k a b h
theorem cz{P0 P1:A0→A1→Prop}{G:Prop}(h:∃ a b,P0 a b∧P1 a b)(k:∀ a b,P0 a b→P1 a b→G):G:=h.elim fun a h=>h.elim fun b h=>k a b h.1 h.2
theorem mH{P0 P1 P2:A0→A1→Prop}{G:Prop}(h:∃ a b,P0 a b∧P1 a b∧P2 a b)(k:∀ a b,P0 a b→P1 a b→P2 a b→G):G:=h.elim fun a h=>h.elim fun b h=>k a b h.1 h.2.1 h.2.2
theorem GC{P0 P1 P2 P3:A0→A1→Prop}{G:Prop}(h:∃ a b,P0 a b∧P1 a b∧P2 a b∧P3 a b)(k:∀ a b,P0 a b→P1 a b→P2 a b→P3 a b→G):G:=h.elim fun a h=>h.elim fun b h=>k a b h.1 h.2.1 h.2.2.1 h.2.2.2
theorem Pq{P0 P1 P2 P3 P4:A0→A1→Prop}{G:Prop}(h:∃ a b,P0 a b∧P1 a b∧P2 a b∧P3 a b∧P4 a b)(k:∀ a b,P0 a b→P1 a b→P2 a b→P3 a b→P4 a b→G):G:=h.elim fun a h=>h.elim fun b h=>k a b h.1 h.2.1 h.2.2.1 h.2.2.2.1 h.2.2.2.2
theorem Pr{P0 P1 P2 P3 P4 P5:A0→A1→Prop}{G:Prop}(h:∃ a b,P0 a b∧P1 a b∧P2 a b∧P3 a b∧P4 a b∧P5 a b)(k:∀ a b,P0 a b→P1 a b→P2 a b→P3 a b→P4 a b→P5 a b→G):G:=h.elim fun a h=>h.elim fun b h=>k a b h.1 h.2.1 h.2.2.1 h.2.2.2.1 h.2.2.2.2.1 h.2.2.2.2.2
theorem GD{P0:A0→A1→A2→Prop}{G:Prop}(h:∃ a b c,P0 a b c)(k:∀ a b c,P0 a b c→G):G:=h.elim fun a h=>h.elim fun b h=>h.elim fun c h=>k a b c h
theorem iM{P0 P1 P2:A0→A1→A2→Prop}{G:Prop}(h:∃ a b c,P0 a b c∧P1 a b c∧P2 a b c)(k:∀ a b c,P0 a b c→P1 a b c→P2 a b c→G):G:=h.elim fun a h=>h.elim fun b h=>h.elim fun c h=>k a b c h.1 h.2.1 h.2.2
theorem NG{P0 P1 P2 P3:A0→A1→A2→Prop}{G:Prop}(h:∃ a b c,P0 a b c∧P1 a b c∧P2 a b c∧P3 a b c)(k:∀ a b c,P0 a b c→P1 a b c→P2 a b c→P3 a b c→G):G:=h.elim fun a h=>h.elim fun b h=>h.elim fun c h=>k a b c h.1 h.2.1 h.2.2.1 h.2.2.2
theorem GE{P0 P1 P2 P3 P4:A0→A1→A2→Prop}{G:Prop}(h:∃ a b c,P0 a b c∧P1 a b c∧P2 a b c∧P3 a b c∧P4 a b c)(k:∀ a b c,P0 a b c→P1 a b c→P2 a b c→P3 a b c→P4 a b c→G):G:=h.elim fun a h=>h.elim fun b h=>h.elim fun c h=>k a b c h.1 h.2.1 h.2.2.1 h.2.2.2.1 h.2.2.2.2
theorem NH{P0 P1 P2 P3 P4 P5:A0→A1→A2→Prop}{G:Prop}(h:∃ a b c,P0 a b c∧P1 a b c∧P2 a b c∧P3 a b c∧P4 a b c∧P5 a b c)(k:∀ a b c,P0 a b c→P1 a b c→P2 a b c→P3 a b c→P4 a b c→P5 a b c→G):G:=h.elim fun a h=>h.elim fun b h=>h.elim fun c h=>k a b c h.1 h.2.1 h.2.2.1 h.2.2.2.1 h.2.2.2.2.1 h.2.2.2.2.2
theorem GG{P0 P1 P2 P3:A0→A1→A2→A3→Prop}{G:Prop}(h:∃ a b c d,P0 a b c d∧P1 a b c d∧P2 a b c d∧P3 a b c d)(k:∀ a b c d,P0 a b c d→P1 a b c d→P2 a b c d→P3 a b c d→G):G:=h.elim fun a h=>h.elim fun b h=>h.elim fun c h=>h.elim fun d h=>k a b c d h.1 h.2.1 h.2.2.1 h.2.2.2
theorem Ps{P0 P1 P2 P3 P4:A0→A1→A2→A3→Prop}{G:Prop}(h:∃ a b c d,P0 a b c d∧P1 a b c d∧P2 a b c d∧P3 a b c d∧P4 a b c d)(k:∀ a b c d,P0 a b c d→P1 a b c d→P2 a b c d→P3 a b c d→P4 a b c d→G):G:=h.elim fun a h=>h.elim fun b h=>h.elim fun c h=>h.elim fun d h=>k a b c d h.1 h.2.1 h.2.2.1 h.2.2.2.1 h.2.2.2.2
theorem NI{P0 P1 P2 P3 P4 P5 P6 P7:A0→A1→A2→A3→Prop}{G:Prop}(h:∃ a b c d,P0 a b c d∧P1 a b c d∧P2 a b c d∧P3 a b c d∧P4 a b c d∧P5 a b c d∧P6 a b c d∧P7 a b c d)(k:∀ a b c d,P0 a b c d→P1 a b c d→P2 a b c d→P3 a b c d→P4 a b c d→P5 a b c d→P6 a b c d→P7 a b c d→G):G:=h.elim fun a h=>h.elim fun b h=>h.elim fun c h=>h.elim fun d h=>k a b c d h.1 h.2.1 h.2.2.1 h.2.2.2.1 h.2.2.2.2.1 h.2.2.2.2.2.1 h.2.2.2.2.2.2.1 h.2.2.2.2.2.2.2
theorem Pt{P0:A0→A1→A2→A3→A4→A5→Prop}{G:Prop}(h:∃ a b c d e f,P0 a b c d e f)(k:∀ a b c d e f,P0 a b c d e f→G):G:=h.elim fun a h=>h.elim fun b h=>h.elim fun c h=>h.elim fun d h=>h.elim fun e h=>h.elim fun f h=>k a b c d e f h
noncomputable abbrev pP{α β γ:Type}(o:Option (α×β))(k:α→β→Option γ):Option γ:=match o with
 | some (a,b)=>k a b
 | none=>none
noncomputable abbrev p3{α β δ γ:Type}(o:Option (α×β×δ))(k:α→β→δ→Option γ):Option γ:=match o with
 | some (a,b,c)=>k a b c
 | none=>none
theorem mP(h:pP o k=some r):∃ a b,o=some (a,b)∧k a b=some r:=by
 cases o with
 | none=>exact dK h
 | some x=>exact⟨_,_,rfl,h⟩
theorem m3(h:p3 o k=some r):∃ a b c,o=some (a,b,c)∧k a b c=some r:=by
 cases o with
 | none=>exact dK h
 | some x=>exact⟨_,_,_,rfl,h⟩
theorem mO(h:o.bind k=some r):∃ a,o=some a∧k a=some r:=RS.mp h
theorem u5{P0 P1:A0→A1→A2→Prop}{G:Prop}(h:∃ a b c,P0 a b c∧P1 a b c)(k:∀ a b c,P0 a b c→P1 a b c→G):G:=h.elim fun a h=>h.elim fun b h=>h.elim fun c h=>k a b c h.1 h.2
theorem mI[Decidable c]{o:Option γ}(h:(if c then o else none)=some r):c∧o=some r:=by
 by_cases q:c
 ·rw[if_pos q] at h
  exact⟨q,h⟩
 ·rw[if_neg q] at h
  exact dK h
noncomputable abbrev Lf:=Sum Str (Sum Int (List Int))
noncomputable def h9:Lf→QC
 | .inl x=>.str x
 | .inr (.inl n)=>.int n
 | .inr (.inr l)=>.tuple (l.map .int)
noncomputable def iO(k:List Lf):QC:=.tuple (k.map h9)
theorem sk{α:Type}[DecidableEq α]{f:α→QC}(hf:∀ a b,Rg (f a) (f b)=decide (a=b)):∀ l l':List α,Rc (l.map f) (l'.map f)=decide (l=l'):=by
 intro l
 induction l with
 | nil=>intro l';cases l'<;>rfl
 | cons a l ih =>
  intro l'
  cases l' with
  | nil=>rfl
  | cons b l'=>rw[QX,QX,Rc,hf,ih,← Bool.decide_and,decide_eq_decide,Va]
theorem E2(l l':List Int):Rc (l.map .int) (l'.map .int)=decide (l=l'):=sk (fun a b=>rfl) l l'
theorem Dn(x y:Lf):Rg (h9 x) (h9 y)=decide (x=y):=by
 rcases x with x | x | x<;>rcases y with y | y | y<;>simp only[h9,Rg,E2]<;>first | (by_cases h:x=y<;>simp[h]) | simp
theorem HD(k k':List Lf):Rc (k.map h9) (k'.map h9)=decide (k=k'):=sk Dn k k'
theorem B2:∀ l:List Int,Rs (l.map .int)≤1:=by
 intro a_
 induction a_ with
 | nil =>
  simp[Rs]
 | cons a l ih =>
  have:=ih
  simp only[QX,Rs,RO]
  assumption
theorem E3(x:Lf):(h9 x).depth≤2:=by
 rcases x with x | x | x
 ·simp[h9,RO]
 ·simp[h9,RO]
 ·have:=B2 x
  simp only[h9,RO]
  exact nC
theorem Do:∀ k:List Lf,Rs (k.map h9)≤2:=by
 intro a_
 induction a_ with
 | nil =>
  simp[Rs]
 | cons a l ih =>
  simp only[QX,Rs]
  exact Nat.max_le.mpr ⟨E3 a,ih⟩
theorem xc(k:List Lf):(iO k).depth≤3:=by
 have:=Do k
 simp only[iO,RO]
 exact nC
section
variable {prog:Uv} {w:World}
noncomputable def oq(prog:Uv)(w:World):Lf→Int
 | .inl x=>(strKind prog w).hash x
 | .inr (.inl n)=>(intKind prog w).hash n
 | .inr (.inr l)=>tupleKeyHash (intKind prog w) l
noncomputable def wh:Lf→Nat
 | .inl _=>1
 | .inr (.inl _)=>1
 | .inr (.inr l)=>l.length+1
noncomputable def im(l:List Lf):Nat:=(l.map wh).sum
theorem u6(a b:List Lf):im (a++b)=im a+im b:=by simp[im]
noncomputable def keyHash(prog:Uv)(w:World)(k:List Lf):Int:=reduceHash (RJ (k.map (oq prog w)))
theorem yt{h:Heap}{P:List QM→List QC→Prop}(n:P [] [])(c:∀ {v d a vs ds},Reads h v d a→P vs ds→P (v::vs) (d::ds)):∀ {vs ds as},Rf h vs ds as→P vs ds:=by
 intro vs
 induction vs with
 | nil=>intro ds as r;cases r;exact n
 | cons v vs ih=>intro ds as r;cases r with | cons a r=>exact c a (ih r)
theorem Dp{h:Heap}{P:List QM→List Int→Prop}(n:P [] [])(c:∀ {t a vs l},P vs l→P (.int a t::vs) (a::l))(r:Rf h vs (l.map .int) as):P vs l :=
 yt (P:=fun vs ds=>∀ l,ds=l.map .int→P vs l) (fun l e=>by
  cases l with
  | nil=>exact n
  | cons=>cases e) (fun a ih l e=>by
  cases l with
  | nil=>cases e
  | cons=>cases e;cases a;exact c (ih _ rfl)) r l rfl
theorem u7(r:Rf h vs (l.map .int) as):ItemsAre (intKind prog w) l vs:=Dp (P:=fun vs l=>ItemsAre (intKind prog w) l vs) .nil (fun ih=>.cons (by simp[intKind,Uw]) ih) r
theorem Dq(hu:A.units<cLine)(r:∃ as,Reads s.heap v (h9 x) as)(h:Q (oq prog w x) { s with toks:=s.toks+wh x }):
  QS (model prog w) A (pyHash v) Q E s:=by
 obtain⟨as,r⟩:=r
 rcases x with x | x | x
 ·cases r
  exact(strKind prog w).pyHash (k:=x) (by simp[PySem.strKind,Value.isStrOf]) h
 ·cases r
  exact(intKind prog w).pyHash (k:=x) (by simp[intKind,Uw]) h
 ·cases r with
  | tuple h1 h2 h3 h4=>exact wpAny_pyHash_tuple hu ⟨_,_,_,h1,h2,h3,u7 h4⟩ h
noncomputable def mw(h:Heap)(k:List Lf)(a:Addr):Prop:=(iO k).canLay0=true∧∃ as,Reads h (.ref a) (iO k) as
theorem mw.obj(x:mw h k a):∃ o vs n as,h.get? a=some o∧o.cls=.type "tuple"∧o.data=.seq vs n∧Rf h vs.toList (k.map h9) as:=by
 revert h k a
 refine @kT _ _ _ _ nI ?_
 generalize q1 _=h,q2 _=k,qe _=a
 intro x
 obtain⟨_,as,r⟩:=x
 cases r with
 | tuple h1 h2 h3 h4=>exact⟨_,_,_,_,h1,h2,h3,h4⟩
theorem mw.typeIs{s:QR}(x:mw s.heap k a):s.TypeIs (.ref a) "tuple":=by obtain⟨o,_,_,_,ho,hc,_⟩:=x.obj;exact⟨o,ho,hc⟩
theorem E4(ho:h.get? d=some o)(hd:o.data=.dict es ep)(hs:SU d h h')(r:Reads h v (h9 x) as):∃ bs,Reads h' v (h9 x) bs:=by
 revert o d h h' v x as es ep
 refine @tX _ _ _ _ _ _ _ _ _ _ nI ?_
 generalize q1 _=o,q2 _=d,q3 _=h,q4 _=h',q5 _=v,q6 _=x,q7 _=as,q8 _=es,qe _=ep
 intro ho hd hs r
 rcases x with x | x | x
 ·cases r;exact⟨_,.str _ _⟩
 ·cases r;exact⟨_,.int _ _⟩
 ·cases r with
  | @tuple a o' vs n xs as h1 h2 h3 h4 =>
   have hne:a≠d:=by
    rintro rfl
    obtain rfl:o'=o:=Rr (h1.symm.trans ho)
    rw[hd] at h3;exact nomatch h3
   have all:∀ {l:List Int} {vs:List QM} {as:List Addr},Rf h vs (l.map .int) as→∃ bs,Rf h' vs (l.map .int) bs:=by
    intro l
    induction l with
    | nil=>intro vs as r;cases r;exact⟨_,.nil⟩
    | cons a l ih =>
     intro vs as r
     cases r with
     | cons r rs =>
      cases r
      obtain⟨bs,q⟩:=ih rs
      exact⟨_,.cons (.int _ _) q⟩
   obtain⟨bs,q⟩:=all h4
   exact⟨bs,.tuple ((hs.2 a hne).trans h1) h2 h3 q⟩
theorem mw.keeps(x:mw h k a)(ho:h.get? d=some o)(hd:o.data=.dict es ep)(hs:SU d h h'):mw h' k a:=by
 refine⟨x.1,?_⟩
 obtain⟨o',vs,n,as,h1,h2,h3,h4⟩:=x.obj
 have hne:a≠d:=by
  rintro rfl
  obtain rfl:o'=o:=Rr (h1.symm.trans ho)
  rw[hd] at h3;exact nomatch h3
 have all:∀ {l:List Lf} {vs:List QM} {as:List Addr},Rf h vs (l.map h9) as→∃ bs,Rf h' vs (l.map h9) bs:=by
  intro l
  induction l with
  | nil=>intro vs as r;cases r;exact⟨_,.nil⟩
  | cons a l ih =>
   intro vs as r
   cases r with
   | cons r rs =>
    obtain⟨bs,q⟩:=ih rs
    obtain⟨cs,z⟩:=E4 ho hd hs r
    exact⟨_,.cons z q⟩
 obtain⟨bs,q⟩:=all h4
 exact⟨bs,.tuple ((hs.2 a hne).trans h1) h2 h3 q⟩
theorem Ks:∀ {x y:Lf},h9 x=h9 y→x=y:=by
 intro x y e
 have h:Rg (h9 x) (h9 y)=decide (x=y):=Dn x y
 rcases x with x | x | x<;>rcases y with y | y | y<;>simp only[h9,PyData.str.injEq,PyData.int.injEq,PyData.tuple.injEq,reduceCtorEq] at e
 ·rw[e]
 ·rw[e]
 ·have:=Ud (f:=QY) (fun a b q=>by cases q;rfl) |>.mp e
  rw[this]
theorem HE(e:iO k=iO k'):k=k':=by
 exact(Ud fun a b q=>Ks q).mp (PyData.tuple.inj e)
theorem B3{A:R7}(hu:A.units+20<cLine)(hk:mw s.heap k a)(h:Q (keyHash prog w k) { s with toks:=s.toks+(im k+1) }):
  QS (model prog w) A (pyHash (.ref a)) Q E s:=by
 revert prog w k a Q E s A
 refine @mG _ _ _ _ _ _ _ _ _ (bi nI (bi yr (bi nI (bi nI (bi nI (bi nI (bi kL qy))))))) ?_
 generalize q1 _=prog,q2 _=w,q3 _=k,q4 _=a,q5 _=Q,q6 _=E,q7 _=s,qe _=A
 intro hu hk h
 have hT:=hk.typeIs
 obtain⟨o,items,n,as,ho,_,hd,hi⟩:=hk.obj
 have hu':A.units<cLine:=by lia
 first | unfold pyHashByItsType | skip
 first | refine Qr (wpAny_cRoomFor_or (.inr hu') ?_) | skip
 refine Qr (Sy hT Tu.lookup ?_)
 show QS _ _ (if(some (Value.builtin "tuple.__hash__")==some Value.none)=true then _ else _) Q E s
 rw[if_neg (by rw[beq_builtin_none];exact Bool.false_ne_true)]
 refine Qr (Sy hT Tu.lookup ?_)
 show QS _ _ (callSpecialIfBoundUnlessNone? (.ref a) "__hash__" _ >>=_) Q E s
 refine Qr (wpAny_callSpecialIfBoundUnlessNone?_slot hT Tu (UM Tu hT F.entry_tuple_hash ?_ (F.args_tuple_hash_1 _)))
 show QS _ _ (WN (.ref a) >>=_) _ _ s
 refine Qr (wpAny_tupleItemsOf ho hd ?_)
 refine Qr ?_
 rw[← Ue]
 refine UN _
  (fun rest (b:Array Int) s'=>∃ done left as',k=done++left∧Rf s.heap rest (left.map h9) as'∧b.toList=done.map (oq prog w)∧s'={ s with toks:=s.toks+im done })
  _ ?_ ?_ _ _ ⟨[],k,as,rfl,hi,rfl,rfl⟩
 ·rintro x rest b s' ⟨done,left,as',rfl,hl,hb,rfl⟩
  cases left with
  | nil=>cases hl
  | cons y left =>
   cases hl with
   | cons h1 hl' =>
    refine Qr (Dq (prog:=prog) (w:=w) (x:=y) (by show A.units+1<cLine;lia) ⟨_,h1⟩ ?_)
    have e:s.toks+im done+wh y=s.toks+im (done++[y]):=by rw[u6];simp[im,UB]
    first
     | exact QB ⟨done++[y],left,_,by simp,hl',by simp[hb],by rw[← e]⟩
     | exact Qr (QB (QB ⟨done++[y],left,_,by simp,hl',by simp[hb],by rw[← e]⟩))
 ·rintro b s' ⟨done,left,as',rfl,hl,hb,rfl⟩
  cases left with
  | cons _ _=>cases hl
  | nil =>
   rw[SX] at h
   show QS _ _ (retInt (RJ b.toList)) _ _ _
   rw[hb]
   refine wpAny_ret_mkInt ?_
   show QS _ _ (if(decide (-(2:Int) ^ 63≤RJ (done.map (oq prog w)))&&decide (RJ (done.map (oq prog w))<2 ^ 63))=true then _ else _) Q E _
   unfold keyHash reduceHash at h
   by_cases hr:(decide (-(2:Int) ^ 63≤RJ (done.map (oq prog w)))&&decide (RJ (done.map (oq prog w))<2 ^ 63))=true
   ·rw[if_pos hr]
    rw[if_pos hr] at h
    exact QB (by simpa [UB] using h)
   ·rw[if_neg hr]
    rw[if_neg hr] at h
    exact Qr (WO (QB (by simpa [UB] using h)))
theorem AG(hn:2≤n)(r:Reads h v (h9 x) as)(hs:s.heap=h)(hq:Q true s):QS (model prog w) A (Wg n v) Q E s:=by
 subst hs
 rcases x with x | x | x
 ·cases r;rw[Ux _ rfl];exact QB hq
 ·cases r;rw[Ux _ rfl];exact QB hq
 ·cases r with
  | tuple h1 h2 h3 h4 =>
   obtain⟨m,rfl⟩:∃ m,n=m+1:=⟨n - 1,by lia⟩
   have hT:s.TypeIs (.ref _) "tuple":=⟨_,h1,h2⟩
   have hi:ItemsAre (intKind prog w) x _:=u7 h4
   unfold Wg
   refine Qr (Sy hT WC.lookup ?_)
   show QS _ _ (isInstance (.ref _) (.type "tuple") >>=_) _ _ s
   refine Qr (UO hT Ve ?_)
   simp only[Sc,RD,if_false]
   refine Qr (Vq h1 h3 ?_)
   refine Qr ?_
   show QS _ _ (forIn _ _ _) _ _ s
   rw[← Ue]
   refine UN _ (fun rest r s'=>r.1=none∧s'=s∧∀ v∈rest,carriedByValue v=true) _ ?_ ?_ _ _ ⟨rfl,rfl,hi.byValue⟩
   ·rintro v rest r s' ⟨hr,rfl,hall⟩
    rw[Ux _ (hall v List.mem_cons_self)]
    refine Qr (QB ?_)
    simp only[Sc,RD,if_false]
    exact QB ⟨rfl,rfl,fun u hu'=>hall u (SE _ hu')⟩
   ·rintro⟨r1,r2⟩ s' ⟨hr,rfl,_⟩
    simp only at hr
    subst hr
    exact QB hq
theorem Dr{A:R7}(hk:mw s.heap k a)(h:Q true s):QS (model prog w) A (Wg 8 (.ref a)) Q E s:=by
 have hT:=hk.typeIs
 obtain⟨o,items,n,as,ho,_,hd,hi⟩:=hk.obj
 unfold Wg
 refine Qr (Sy hT WC.lookup ?_)
 show QS _ _ (isInstance (.ref a) (.type "tuple") >>=_) _ _ s
 refine Qr (UO hT Ve ?_)
 simp only[Sc,RD,if_false]
 refine Qr (Vq ho hd ?_)
 refine Qr ?_
 show QS _ _ (forIn items _ _) _ _ s
 rw[← Ue]
 refine UN _ (fun rest r s'=>r.1=none∧s'=s∧∃ left as',Rf s.heap rest (left.map h9) as') _ ?_ ?_ _ _ ⟨rfl,rfl,k,as,hi⟩
 ·rintro v rest r s' ⟨hr,rfl,left,as',hl⟩
  cases left with
  | nil=>cases hl
  | cons y left =>
   cases hl with
   | cons h1 hl' =>
    refine Qr (AG (by decide) h1 rfl ?_)
    simp only[Sc,RD,if_false]
    exact QB ⟨rfl,rfl,left,_,hl'⟩
 ·rintro⟨r1,r2⟩ s' ⟨hr,rfl,_⟩
  simp only at hr
  subst hr
  exact QB h
end
noncomputable def tv(prog:Uv)(w:World):HeapKind prog w (List Lf) where
 is:=mw
 hash:=keyHash prog w
 draws:=fun k=>im k+1
 room:=fun A=>A.units+20<cLine
 inj:=fun hx hy=>by
  obtain⟨h1,as,r⟩:=hx
  obtain⟨_,bs,q⟩:=hy
  exact HE (W1 _ _ _ _ _ h1 r q)
 keeps:=fun x ho hd hs=>x.keeps ho hd hs
 pyHash:=fun hu hk h=>B3 hu hk h
 eqBool:=fun {A E s x y a b Q} hu hx hy h=>by
  obtain⟨h1,as,r⟩:=hx
  obtain⟨h2,bs,q⟩:=hy
  refine PySem.SeqAt.eqBoolOverData _ _ _ _ _ _ _ _ _ _ _ _ r q h1 h2 ?_ ?_
  ·have:=xc x
   have:=xc y
   have hu:A.units+20<cLine:=hu
   lia
  ·rw[show Rg (iO x) (iO y)=Rc (x.map h9) (y.map h9) from by simp[iO,Rg],HD];exact h
 quiet:=fun hk h=>Dr hk h
inductive PV where
 | dat (d:QC)
 | ref (i:Nat)
 | stat (v:QM)
 deriving Inhabited
inductive AO where
 | list (l:List PV)
 | idict (l:List (Int×PV))
 | tdict (l:List (List Lf×PV))
 | inst (C:Addr) (fs:List (Option PV))
 deriving Inhabited
noncomputable abbrev St:=List AO
noncomputable abbrev dF:=List (Addr×Addr)
noncomputable abbrev gK:PV→Option QC
 | .dat d=>some d
 | .ref _=>none
 | .stat _=>none
noncomputable abbrev jX:PV→Option Nat
 | .dat _=>none
 | .ref i=>some i
 | .stat _=>none
noncomputable abbrev u8:QC→Option Int
 | .none=>none
 | .bool _=>none
 | .int i=>some i
 | .str _=>none
 | .list _=>none
 | .tuple _=>none
 | .dict _=>none
noncomputable abbrev yu:QC→Option Bool
 | .none=>none
 | .bool b=>some b
 | .int _=>none
 | .str _=>none
 | .list _=>none
 | .tuple _=>none
 | .dict _=>none
noncomputable abbrev Ds:QC→Option (List QC)
 | .none=>none
 | .bool _=>none
 | .int _=>none
 | .str _=>none
 | .list l=>some l
 | .tuple _=>none
 | .dict _=>none
noncomputable abbrev GH:QC→Option (List QC)
 | .none=>none
 | .bool _=>none
 | .int _=>none
 | .str _=>none
 | .list _=>none
 | .tuple l=>some l
 | .dict _=>none
noncomputable abbrev kM:AO→Option (List PV)
 | .list l=>some l
 | .idict _=>none
 | .tdict _=>none
 | .inst _ _=>none
noncomputable abbrev qz:AO→Option (List (Int×PV))
 | .list _=>none
 | .idict l=>some l
 | .tdict _=>none
 | .inst _ _=>none
noncomputable abbrev Dt:AO→Option (List (List Lf×PV))
 | .list _=>none
 | .idict _=>none
 | .tdict l=>some l
 | .inst _ _=>none
noncomputable abbrev Ba:AO→Option (Addr×List (Option PV))
 | .list _=>none
 | .idict _=>none
 | .tdict _=>none
 | .inst C l=>some (C,l)
noncomputable abbrev mM(p:PV):Option Int:=(gK p).bind u8
noncomputable abbrev xd(p:PV):Option (List QC):=(gK p).bind Ds
noncomputable abbrev NJ(p:PV):Option (List QC):=(gK p).bind GH
noncomputable abbrev Kt:QC→Option Unit
 | .none=>some ()
 | .bool _=>none
 | .int _=>none
 | .str _=>none
 | .list _=>none
 | .tuple _=>none
 | .dict _=>none
noncomputable abbrev GI(p:PV):Option Unit:=(gK p).bind Kt
noncomputable abbrev GJ(p:PV):Option Bool:=(gK p).bind yu
noncomputable abbrev ot{α:Type}:List α→Option α
 | []=>none
 | [a]=>some a
 | _::_::_=>none
noncomputable abbrev Du{α:Type}:List α→Option (α×α)
 | []=>none
 | [_]=>none
 | [a,b]=>some (a,b)
 | _::_::_::_=>none
section
variable {p:PV} {d:QC} {i:Nat} {n:Int} {b:Bool} {l:List QC} {a:AO}
theorem nQ(h:gK p=some d):p=.dat d:=by cases p<;>first | exact dK h | exact cE h▸rfl
theorem tw(h:jX p=some i):p=.ref i:=by cases p<;>first | exact dK h | exact cE h▸rfl
theorem u9(h:u8 d=some n):d=.int n:=by cases d<;>first | exact dK h | exact cE h▸rfl
theorem vc(h:yu d=some b):d=.bool b:=by cases d<;>first | exact dK h | exact cE h▸rfl
theorem B4(h:Ds d=some l):d=.list l:=by cases d<;>first | exact dK h | exact cE h▸rfl
theorem GK(h:GH d=some l):d=.tuple l:=by cases d<;>first | exact dK h | exact cE h▸rfl
theorem MD{l:List PV}(h:kM a=some l):a=.list l:=by cases a<;>first | exact dK h | exact cE h▸rfl
theorem ME{l:List (Int×PV)}(h:qz a=some l):a=.idict l:=by cases a<;>first | exact dK h | exact cE h▸rfl
theorem MF{l:List (List Lf×PV)}(h:Dt a=some l):a=.tdict l:=by cases a<;>first | exact dK h | exact cE h▸rfl
theorem GL(h:Ba a=some x):a=.inst x.1 x.2:=by cases a<;>first | exact dK h | exact cE h▸rfl
theorem tx(h:mM p=some n):p=.dat (.int n):=aH (RS.mp h) fun _ e f=>u9 f▸nQ e
theorem GM(h:xd p=some l):p=.dat (.list l):=aH (RS.mp h) fun _ e f=>B4 f▸nQ e
theorem GN(h:NJ p=some l):p=.dat (.tuple l):=aH (RS.mp h) fun _ e f=>GK f▸nQ e
theorem MG(h:Kt d=some u):d=.none:=by cases d<;>first | exact dK h | rfl
theorem GO(h:GI p=some u):p=.dat .none:=aH (RS.mp h) fun _ e f=>MG f▸nQ e
theorem MH(h:GJ p=some b):p=.dat (.bool b):=aH (RS.mp h) fun _ e f=>vc f▸nQ e
end
theorem qY(h:ot l=some a):l=[a]:=by rcases l with _ | ⟨_,_ | _⟩<;>first | exact dK h | exact cE h▸rfl
theorem B6(h:Du l=some a):l=[a.1,a.2]:=by rcases l with _ | ⟨_,_ | ⟨_,_ | _⟩⟩<;>first | exact dK h | exact cE h▸rfl
noncomputable abbrev d7{α β γ:Type}(f:α→Option β)(o:Option α)(k:β→Option γ):Option γ:=o.bind fun a=>(f a).bind k
noncomputable abbrev dh{α β γ σ:Type}(f:α→Option β)(o:Option (α×σ))(k:β→σ→Option γ):Option γ:=pP o fun a s=>(f a).bind fun b=>k b s
theorem qZ{g:β→α}(h:d7 f o k=some r)(hf:∀ {a b},f a=some b→a=g b):∃ b,o=some (g b)∧k b=some r :=
 aH (mO h) fun a e h=>aH (mO h) fun b e1 h=>⟨b,hf e1▸e,h⟩
theorem kW{g:β→α}(h:dh f o k=some r)(hf:∀ {a b},f a=some b→a=g b):∃ b s,o=some (g b,s)∧k b s=some r :=
 cz (mP h) fun a s e h=>aH (mO h) fun b e1 h=>⟨b,s,hf e1▸e,h⟩
section
variable {α γ:Type} {r:γ} {G:Prop}
theorem mD(h:dh gK o k=some r):∃ a s,o=some (.dat a,s)∧k a s=some r:=kW h nQ
theorem mR(h:dh jX o k=some r):∃ a s,o=some (.ref a,s)∧k a s=some r:=kW h tw
theorem mN(h:dh mM o k=some r):∃ a s,o=some (.dat (.int a),s)∧k a s=some r:=kW h tx
theorem mL(h:dh xd o k=some r):∃ a s,o=some (.dat (.list a),s)∧k a s=some r:=kW h GM
theorem mB(h:dh GJ o k=some r):∃ a s,o=some (.dat (.bool a),s)∧k a s=some r:=kW h MH
theorem mA(h:d7 kM o k=some r):∃ a,o=some (.list a)∧k a=some r:=qZ h MD
theorem mK(h:d7 qz o k=some r):∃ a,o=some (.idict a)∧k a=some r:=qZ h ME
theorem mT(h:d7 Dt o k=some r):∃ a,o=some (.tdict a)∧k a=some r:=qZ h MF
theorem mV(h:d7 Ba o k=some r):∃ x,o=some (.inst x.1 x.2)∧k x=some r:=qZ (g:=fun x=>AO.inst x.1 x.2) h GL
theorem m1(h:dh ot o k=some r):∃ a s,o=some ([a],s)∧k a s=some r:=kW (g:=fun a=>[a]) h qY
noncomputable abbrev lJ(o:Option (Bool×α))(A B:α→Option γ):Option γ:=match o with
 | some (true,s)=>A s
 | some (false,s)=>B s
 | none=>none
theorem xe(h:lJ o A B=some r)(k:∀ s,o=some (true,s)→A s=some r→G)(l:∀ s,o=some (false,s)→B s=some r→G):G:=by
 rcases o with _ | ⟨_ | _,s⟩
 ·exact dK h
 ·exact l s rfl h
 ·exact k s rfl h
noncomputable abbrev pD(p:PV)(A B:List QC→Option γ)(C:Nat→Option γ):Option γ:=match p with
 | .dat d=>(match d with
  | .none=>none
  | .bool _=>none
  | .int _=>none
  | .str _=>none
  | .list l=>A l
  | .tuple l=>B l
  | .dict _=>none)
 | .ref i=>C i
 | .stat _=>none
theorem yc(h:pD p A B C=some r)(k:∀ l,p=.dat (.list l)→A l=some r→G)(k2:∀ l,p=.dat (.tuple l)→B l=some r→G)(k3:∀ i,p=.ref i→C i=some r→G):G:=by
 rcases p with(_ | _ | _ | _ | _ | _ | _) | _ | _<;>first | exact dK h | exact k _ rfl h | exact k2 _ rfl h | exact k3 _ rfl h
noncomputable abbrev ou(o:Option AO)(A:List PV→Option γ)(B:List (Int×PV)→Option γ):Option γ:=match o with
 | some (.list l)=>A l
 | some (.idict l)=>B l
 | some (.tdict _)=>none
 | some (.inst _ _)=>none
 | none=>none
theorem B8(h:ou o A B=some r)(k:∀ l,o=some (.list l)→A l=some r→G)(k2:∀ l,o=some (.idict l)→B l=some r→G):G:=by
 rcases o with _ | (_ | _ | _ | _)<;>first | exact dK h | exact k _ rfl h | exact k2 _ rfl h
end
noncomputable def ow(XJ:dF):List Addr:=XJ.map (·.2)
theorem fC(a b:dF):ow (a++b)=ow a++ow b:=RZ
noncomputable def DR(h:Heap)(H:List Addr)(d:QC)(v:QM):Prop:=∃ as,Reads (Tv h H) v d as
noncomputable def VR(h:Heap)(H:List Addr)(XJ:dF):PV→QM→Prop
 | .dat d,v=>DR h (H++ow XJ) d v
 | .ref i,v=>∃ p,XJ[i]?=some p∧v=.ref p.1
 | .stat x,v=>v=x
inductive cG (h:Heap) (H:List Addr) (XJ:dF):List PV→List QM→Prop where
 | nil:cG h H XJ [] []
 | cons {p:PV} {v:QM} {ps:List PV} {vs:List QM}:VR h H XJ p v→cG h H XJ ps vs→cG h H XJ (p::ps) (v::vs)
noncomputable def eg(h:Heap)(H:List Addr)(h':Heap)(H':List Addr):Prop:=∀ b o,h.get? b=some o→b∉H→h'.get? b=some o∧b∉H'
theorem cG.e0{G:Prop}(V:cG h H XJ [] vs)(k:vs=[]→G):G:=by cases V;exact k rfl
theorem cG.c1{G:Prop}(V:cG h H XJ (p::ps) vs)(k:∀ v ws,VR h H XJ p v→cG h H XJ ps ws→vs=v::ws→G):G:=by
 cases V with
 | cons x V=>exact k _ _ x V rfl
theorem cG.e1{p:PV}{G:Prop}(V:cG h H XJ [p] vs)(k:∀ v,VR h H XJ p v→vs=[v]→G):G :=
 V.c1 fun v _ x V e=>V.e0 fun w=>k v x (w▸e)
theorem cG.e2{G:Prop}(V:cG h H XJ [p,q] vs)(k:∀ v w,VR h H XJ p v→VR h H XJ q w→vs=[v,w]→G):G :=
 V.c1 fun v _ x V e=>V.e1 fun w y f=>k v w x y (f▸e)
theorem HH(e:(Tv h H).get? b=some o):h.get? b=some o∧b∉H :=
 ⟨UZ H e,fun hm=>by rw[hideAll_none H hm] at e;cases e⟩
theorem eg.hide(x:eg h H h' H'):∀ b o,(Tv h H).get? b=some o→(Tv h' H').get? b=some o :=
 fun b o e=>bA (HH e) fun e1 n1=>bA (x b o e1 n1) fun e2 n2=>TN H' e2 n2
theorem DR.mono(x:eg h H h' H')(r:DR h H d v):DR h' H' d v :=
 bM (r) fun as r=>⟨as,UC x.hide r⟩
theorem DR.reads(r:DR h H d v):∃ as,Reads h v d as :=
 bM (r) fun as r=>⟨as,UC (fun _ _ e=>UZ H e) r⟩
theorem VR.mono(x:eg h (H++ow XJ) h' (H'++ow (XJ++new)))(r:VR h H XJ p v):VR h' H' (XJ++new) p v:=by
 cases p with
 | dat d=>exact DR.mono x r
 | ref i =>
  refine aH (r) fun q e XX=>?_
  subst XX
  refine⟨q,?_,rfl⟩
  rw[QD (Qt.mp e).1];exact e
 | stat y=>exact r
theorem cG.mono(x:eg h (H++ow XJ) h' (H'++ow (XJ++new)))(r:cG h H XJ ps vs):cG h' H' (XJ++new) ps vs:=by
 induction r with
 | nil=>exact .nil
 | cons a _ ih=>exact .cons (a.mono x) ih
theorem cG.length(r:cG h H XJ ps vs):ps.length=vs.length:=by
 induction r with
 | nil=>rfl
 | cons _ _ ih=>simp[ih]
theorem cG.get(r:cG h H XJ ps vs):∀ {i:Nat} {p:PV},ps[i]?=some p→∃ v,vs[i]?=some v∧VR h H XJ p v:=by
 induction r with
 | nil=>intro i p e;simp at e
 | @cons q v ps vs a _ ih =>
  intro i p e
  cases i with
  | zero=>simp at e;subst e;exact⟨v,by simp,a⟩
  | succ j=>simp at e;simpa using ih e
theorem cG.snoc(r:cG h H XJ ps vs)(a:VR h H XJ p v):cG h H XJ (ps++[p]) (vs++[v]):=by
 induction r with
 | nil=>exact .cons a .nil
 | cons b _ ih=>exact .cons b ih
theorem cG.set(r:cG h H XJ ps vs)(a:VR h H XJ p v):∀ i:Nat,cG h H XJ (ps.set i p) (vs.set i v):=by
 induction r with
 | nil=>intro i;exact .nil
 | cons b r ih=>intro i;cases i with
  | zero=>exact .cons a r
  | succ j=>exact .cons b (ih j)
structure Cf where
 prog:Uv
 w:World
 h₀:Heap
 K:Frag
theorem ox:Nonempty Cf:=yr.elim fun w=>⟨⟨Ts,w,Ts,[]⟩⟩
noncomputable abbrev Cf.M(c:Cf):Model:=model c.prog c.w
noncomputable abbrev GP:=Addr→List Str
noncomputable def gh:GP:=fun C =>
 if C==688 then["sort_names","sort_widths","fun_names","fun_args","fun_results","fresh_count","term_ops","term_args","term_sorts","term_datas","numbers","true_number","false_number","bv_numbers"]
 else if C==740 then["parts","constant"]
 else if C==1002 then["bank","yes","no","known"]
 else[]
noncomputable abbrev Cf.P(c:Cf):Sp:=c.w.params
noncomputable def xf(at_:GP)(h:Heap)(H:List Addr)(XJ:dF)(C:Addr)(fs:List (Option PV))(m:Str→Option QM):Prop :=
 fs.length=(at_ C).length∧(∀ x,x∉at_ C→m x=none)∧∀ (i:Nat) (x:Str),(at_ C)[i]?=some x→match fs[i]? with
  | some (some p)=>∃ v,m x=some v∧VR h H XJ p v
  | some none=>m x=none
  | none=>m x=none
noncomputable def jb(fs:List (Option PV)):Nat:=fs.countP Option.isSome
noncomputable def OR(c:Cf)(h:Heap)(H:List Addr)(XJ:dF)(p:Addr×Addr):AO→Prop
 | .list l=>p.1=p.2∧l.length≤2 ^ 20∧∃ vs ep,h.get? p.2=some ⟨.type "list",none,.seq (QW vs) ep,#[]⟩∧cG h H XJ l vs
 | .idict l=>p.1=p.2∧l.length≤2 ^ 20∧(p.2==Uf)=false∧∃ kvs:List (Int×QM),h.DictOf (Q5 c.prog c.w) p.2 kvs∧kvs.map (·.1)=l.map (·.1)∧cG h H XJ (l.map (·.2)) (kvs.map (·.2))
 | .tdict l=>p.1=p.2∧l.length≤2 ^ 20∧(p.2==Uf)=false∧∃ (xs:List (List Lf×Addr×QM)) (o:Obj) (es:Array Wf) (ep:Nat),h.get? p.2=some o∧o.ExactDict∧o.data=.dict es ep∧es.toList=xs.map (entryOfKey (tv c.prog c.w)) ∧
  (∀ x∈xs,(iO x.1).canLay0=true∧DR h (H++ow XJ) (iO x.1) (.ref x.2.1))∧(xs.map (·.1)).Nodup∧xs.map (·.1)=l.map (·.1)∧cG h H XJ (l.map (·.2)) (xs.map (·.2.2))
 | .inst C fs=>h.get? p.1=some (Uy C p.2)∧p.1∉H++ow XJ∧∃ m,h.Ns p.2 m∧xf gh h H XJ C fs m∧∃ (o:Obj) (es:Array Wf) (ep:Nat),h.get? p.2=some o∧o.data=.dict es ep∧es.size≤jb fs
theorem OR.mono (x:eg h (H++ow XJ) h' (H'++ow (XJ++new))) (e:∀ ob,h.get? p.2=some ob→h'.get? p.2=some ob)
  (r:OR c h H XJ p o):OR c h' H' (XJ++new) p o:=by
 revert h H XJ h' H' new p c o
 refine @tX _ _ _ _ _ _ _ _ _ _ (bi nI (bi nI (bi nI (bi nI (bi nI (bi nI (bi nI (bi ox nI)))))))) ?_
 generalize q1 _=h,q2 _=H,q3 _=XJ,q4 _=h',q5 _=H',q6 _=new,q7 _=p,q8 _=c,qe _=o
 intro x e r
 cases o with
 | list l =>
  obtain⟨a,b,vs,ep,g,d⟩:=r
  exact⟨a,b,vs,ep,e _ g,d.mono x⟩
 | idict l =>
  obtain⟨a,b,b',kvs,g,d,d'⟩:=r
  exact⟨a,b,b',kvs,g.at e,d,d'.mono x⟩
 | tdict l =>
  obtain⟨a,b,b',xs,o,es,ep,g1,g2,g3,g4,g5,g6,g7,g8⟩:=r
  exact⟨a,b,b',xs,o,es,ep,e _ g1,g2,g3,g4,fun y hy=>⟨(g5 y hy).1,(g5 y hy).2.mono x⟩,g6,g7,g8.mono x⟩
 | inst C fs =>
  obtain⟨a,b,m,g,⟨i,j,k⟩,o,es,ep,z1,z2,z3⟩:=r
  have y:=x _ _ a b
  refine⟨y.1,y.2,m,g.at' e,⟨i,j,fun n z hz=>?_⟩,o,es,ep,e _ z1,z2,z3⟩
  have:=k n z hz
  cases q:fs[n]? with
  | none=>rw[q] at this;exact this
  | some u=>cases u with
   | none=>rw[q] at this;exact this
   | some u=>rw[q] at this;obtain⟨v,v1,v2⟩:=this;exact⟨v,v1,v2.mono x⟩
structure Bb (c:Cf) (h:Heap) (H:List Addr) (XJ:dF) (Xx:St):Prop where
 len:XJ.length=Xx.length
 nodup:(ow XJ).Nodup
 apart:∀ a∈ow XJ,a∉H
 objs:∀ (i:Nat) (o:AO),Xx[i]?=some o→∃ p,XJ[i]?=some p∧OR c h H XJ p o
structure Cf.Ok (c:Cf):Prop where
 hK:c.K=KF c.P
 K:c.K.In c.h₀
 lim:c.h₀.NoLimit
 blt:∃ mb,c.h₀.Ns Ug mb∧∀ x,x≠("__name__":Str)→mb x=Rp x
 file:((c.prog.main.file:Str)==("/claim/cut.py":Str))=true
 top:(c.prog.main.scope.names.lookup ("super":Str)).isSome=false
structure cH (c:Cf) (h:Heap) (H:List Addr) (XJ:dF) (Xx:St):Prop where
 ok:c.Ok
 rep:Bb c h H XJ Xx
 stays:∀ b o,c.h₀.get? b=some o→h.get? b=some o
 fresh:∀ a∈H++ow XJ,c.h₀.get? a=none
 alive:∀ a∈H,(h.get? a).isSome=true
section
variable {c:Cf} {h:Heap} {H:List Addr} {XJ:dF} {Xx:St}
theorem OR.live(r:OR c h H XJ p o):∃ ob,h.get? p.2=some ob:=by
 revert c h H XJ p o
 refine @u4 _ _ _ _ _ _ _ (bi ox nI) ?_
 generalize q1 _=c,q2 _=h,q3 _=H,q4 _=XJ,q5 _=p,qe _=o
 intro r
 cases o with
 | list l=>obtain⟨_,_,vs,ep,c,_⟩:=r;exact⟨_,c⟩
 | idict l=>obtain⟨_,_,_,kvs,⟨o,es,ep,c,_⟩,_⟩:=r;exact⟨_,c⟩
 | tdict l=>obtain⟨_,_,_,xs,o,es,ep,c,_⟩:=r;exact⟨_,c⟩
 | inst C fs=>obtain⟨_,_,m,⟨o,es,ep,c,_⟩,_⟩:=r;exact⟨_,c⟩
theorem Bb.live(r:Bb c h H XJ Xx)(ha:a∈ow XJ):∃ ob,h.get? a=some ob:=by
 refine aH (QL.mp ha) fun p hp XX=>?_
 subst XX
 obtain⟨i,hi,e⟩:=List.mem_iff_getElem.mp hp
 have hl:i<Xx.length:=r.len▸hi
 refine aH (r.objs i Xx[i] (by simp[hl])) fun q e1 e2=>?_
 rw[SL hi,e] at e1;cases e1
 exact e2.live
theorem cH.KIn(x:cH c h H XJ Xx):c.K.In h:=x.ok.K.keeps x.stays
theorem cH.lim(x:cH c h H XJ Xx):h.NoLimit:=x.ok.lim.keeps x.stays
end
structure bP (c:Cf) (H X:List Addr) (s:QR) (XJ:dF) (s':QR) (XM:dF) (XK:St):Prop where
 sub:∀ a∈X,a∈H
 inv:cH c s'.heap H XM XK
 pre:∃ new,XM=XJ++new∧∀ a∈ow new,s.heap.get? a=none
 keep:∀ b o,s.heap.get? b=some o→b∉X→b∉ow XJ→s'.heap.get? b=some o
 same:∃ h t,s'={ s with heap:=h,toks:=t }
section
variable {c:Cf} {H X:List Addr} {s XZ X0:QR} {XJ XE XF:dF} {Xx XA XB:St}
theorem bP.refl(i:cH c s.heap H XJ Xx):bP c H [] s XJ s XJ Xx :=
 ⟨by simp,i,⟨[],by simp,by simp[ow]⟩,fun _ _ e _ _=>e,s.heap,s.toks,rfl⟩
theorem bP.trans(x:bP c H X s XJ XZ XE XA)(y:bP c H X XZ XE X0 XF XB):bP c H X s XJ X0 XF XB:=by
 refine aH (x.pre) fun n1 XW g1=>?_
 subst XW
 refine aH (y.pre) fun n2 XW g2=>?_
 subst XW
 refine⟨x.sub,y.inv,⟨n1++n2,by rw[QF],fun a ha=>?_⟩,fun b o e nX na=>?_,?_⟩
 ·rw[fC,Qw] at ha
  rcases ha with ha | ha
  ·exact g1 a ha
  ·cases q:s.heap.get? a with
   | none=>rfl
   | some o =>
    have nw:=g2 a ha
    exfalso
    by_cases m1:a∈X
    ·have:=x.inv.alive a (x.sub a m1);rw[nw] at this;cases this
    ·by_cases m2:a∈ow XJ
     ·refine bM (x.inv.rep.live (a:=a) (by rw[fC];exact Qq _ m2)) fun ob e=>?_
      rw[nw] at e;cases e
     ·have:=x.keep a o q m1 m2;rw[nw] at this;cases this
 ·refine y.keep b o (x.keep b o e nX na) nX ?_
  rw[fC,Qw,not_or]
  exact⟨na,fun hm=>by have:=g1 b hm;rw[e] at this;cases this⟩
 ·refine jW (x.same) fun h1 t1 XX=>?_
  subst XX
  refine jW (y.same) fun h2 t2 XX=>?_
  subst XX
  exact⟨h2,t2,rfl⟩
theorem bP.weaken(x:bP c H X s XJ XZ XE XA)(hX:∀ a∈X,a∈X')(hH:∀ a∈X',a∈H):bP c H X' s XJ XZ XE XA :=
 ⟨hH,x.inv,x.pre,fun b o e nX na=>x.keep b o e (fun hm=>nX (hX b hm)) na,x.same⟩
theorem bP.sees(x:bP c H X s XJ XZ XE XA):eg s.heap (H++ow XJ) XZ.heap (H++ow XE):=by
 refine aH (x.pre) fun n1 XW g1=>?_
 subst XW
 intro b o e nm
 rw[Qw,not_or] at nm
 refine⟨x.keep b o e (fun hm=>nm.1 (x.sub b hm)) nm.2,?_⟩
 rw[fC,Qw,Qw,not_or,not_or]
 exact⟨nm.1,nm.2,fun hm=>by have:=g1 b hm;rw[e] at this;cases this⟩
theorem bP.vr(x:bP c H X s XJ XZ XE XA)(r:VR s.heap H XJ p v):VR XZ.heap H XE p v:=by
 have y:=x.sees
 refine aH (x.pre) fun n1 XW _=>?_
 subst XW
 exact r.mono y
theorem bP.vrs(x:bP c H X s XJ XZ XE XA)(r:cG s.heap H XJ ps vs):cG XZ.heap H XE ps vs:=by
 have y:=x.sees
 refine aH (x.pre) fun n1 XW _=>?_
 subst XW
 exact r.mono y
theorem bP.keepH(x:bP c H X s XJ XZ XE XA)(i:cH c s.heap H XJ Xx)(hb:b∈H)(nX:b∉X)(e:s.heap.get? b=some o):XZ.heap.get? b=some o :=
 x.keep b o e nX fun hm=>i.rep.apart b hm hb
structure ez (s s':QR):Prop where
 keep:∀ b o,s.heap.get? b=some o→s'.heap.get? b=some o
 same:∃ h t,s'={ s with heap:=h,toks:=t }
theorem ez.refl:ez s s:=⟨fun _ _ e=>e,s.heap,s.toks,rfl⟩
theorem ez.trans(x:ez s XZ)(y:ez XZ X0):ez s X0:=by
 refine⟨fun b o e=>y.keep b o (x.keep b o e),?_⟩
 refine jW (x.same) fun h1 t1 XX=>?_
 subst XX
 refine jW (y.same) fun h2 t2 XX=>?_
 subst XX
 exact⟨h2,t2,rfl⟩
theorem ez.tok:ez s { s with toks:=t }:=⟨fun _ _ e=>e,s.heap,t,rfl⟩
theorem Bb.grow(k:∀ b o,h.get? b=some o→h'.get? b=some o)(r:Bb c h H XJ Xx):Bb c h' H XJ Xx:=by
 refine⟨r.len,r.nodup,r.apart,fun i o e=>?_⟩
 refine aH (r.objs i o e) fun p e1 e2=>?_
 refine⟨p,e1,?_⟩
 have:=e2.mono (h':=h') (H':=H) (new:=[]) (fun b ob q n=>⟨k b ob q,by simpa using n⟩) (k p.2)
 simpa using this
theorem cH.grow(k:∀ b o,h.get? b=some o→h'.get? b=some o)(i:cH c h H XJ Xx):cH c h' H XJ Xx :=
 ⟨i.ok,i.rep.grow k,fun b o e=>k b o (i.stays b o e),i.fresh,fun a ha=>by
  obtain⟨o,e⟩:=Qy.mp (i.alive a ha)
  rw[k a o e];rfl⟩
theorem ez.stp(x:ez s XZ)(i:cH c s.heap H XJ Xx):bP c H [] s XJ XZ XJ Xx :=
 ⟨by simp,i.grow x.keep,⟨[],by simp,by simp[ow]⟩,fun b o e _ _=>x.keep b o e,x.same⟩
end
structure Rm (A:R7) (d:Nat):Prop where
 handled:A.handled=none
 depth:A.depth+3*d≤900
 units:A.units+12*d≤9600
 frames:∃ l,A.frames=some l
theorem Rm.le(r:Rm A d)(h:d'≤d):Rm A d':=⟨r.handled,by have:=r.depth;lia,by have:=r.units;lia,r.frames⟩
theorem Rm.deeper(r:Rm A (d+1)):Rm (A.deeper env) d:=by
 refine bM (r.frames) fun l hl=>?_
 refine⟨r.handled,?_,?_,env::l,?_⟩
 ·have:(A.deeper env).depth=A.depth+1:=rfl
  have:=r.depth;lia
 ·have:(A.deeper env).units=A.units+3:=rfl
  have:=r.units;lia
 ·show A.frames.map _=_;rw[hl];rfl
theorem Rm.room(r:Rm A d):A.depth<recursionLimit:=by have:=r.depth;show _<1000;lia
theorem Rm.cLine(r:Rm A d):A.units+200<cLine:=by have:=r.units;show _<9900;lia
noncomputable abbrev No:QM→QR→Prop:=fun _ _=>False
noncomputable abbrev Nm:=List (Str×RT)
noncomputable abbrev Sl:=List (Option PV)
structure er (κ:Nm) (σ:List Str) (env:Env) (h:Heap) (H:List Addr) (XJ:dF) (ρ:Sl):Prop where
 names:env.scope.names=κ
 kind:env.scope.kind=.function
 glob:env.globals=Q9
 blt:env.builtins=Ug
 locH:env.locals∈H
 cellH:∀ x∈env.cells,x.1∈σ→x.2∈H∧x.2≠env.locals
 cellsIn:∀ x∈σ,κ.lookup x=some .cell→∃ a,env.cells.lookup x=some a
 apart:∀ x∈env.cells,∀ y∈env.cells,x.2=y.2→x.1=y.1
 len:ρ.length=σ.length
 vars:∃ (m cm:Str→Option QM),h.Ns env.locals m∧(∀ n a,n∈σ→env.cells.lookup n=some a→h.IsCell a (cm n)) ∧
  ∀ (i:Nat) (x:Str) (p:PV),σ[i]?=some x→ρ[i]?=some (some p)→∃ v,VR h H XJ p v ∧
   ((κ.lookup x=some .local∧m x=some v)∨((κ.lookup x=some .cell∨κ.lookup x=some .free)∧(∃ a,env.cells.lookup x=some a)∧cm x=some v))
structure Ev (c:Cf) (κ:Nm) (σ:List Str) (env:Env) (H:List Addr) (XJ:dF) (ρ:Sl) (Xx:St) (s:QR):Prop where
 env:er κ σ env s.heap H XJ ρ
 inv:cH c s.heap H XJ Xx
section
variable {c:Cf} {κ:Nm} {σ:List Str} {env:Env} {H:List Addr} {XJ XM:dF} {ρ:Sl} {Xx XK:St} {s s':QR}
theorem IsCell.at_{h h':Heap}(x:h.IsCell a v)(e:∀ o,h.get? a=some o→h'.get? a=some o):h'.IsCell a v:=aH (x) fun o ho r=>⟨o,e _ ho,r⟩
theorem er.move {h h':Heap} (x:er κ σ env h H XJ ρ) (hl:env.locals∈H') (hc:∀ y∈env.cells,y.1∈σ→y.2∈H') (k:∀ b,(b=env.locals∨∃ y∈env.cells,y.1∈σ∧y.2=b)→∀ o,h.get? b=some o→h'.get? b=some o)
  (vr:∀ p v,VR h H XJ p v→VR h' H' XM p v):er κ σ env h' H' XM ρ:=by
 refine mH (x.vars) fun m cm a b f=>?_
 refine⟨x.names,x.kind,x.glob,x.blt,hl,fun y hy hs=>⟨hc y hy hs,(x.cellH y hy hs).2⟩,x.cellsIn,x.apart,x.len,m,cm,a.at' (k _ (.inl rfl)),fun n ad hs e=>IsCell.at_ (b n ad hs e) (k _ (.inr ⟨_,mem_of_lookup e,hs,rfl⟩)),fun i y p e1 e2=>?_⟩
 refine aH (f i y p e1 e2) fun v v1 v2=>?_
 exact⟨v,vr p v v1,v2⟩
theorem Ev.step(x:Ev c κ σ env H XJ ρ Xx s)(y:bP c H [] s XJ s' XM XK):Ev c κ σ env H XM ρ XK s':=by
 refine⟨x.env.move x.env.locH (fun y hy hs=>(x.env.cellH y hy hs).1) (fun b hb o e=>?_) fun p v r=>y.vr r,y.inv⟩
 rcases hb with rfl | ⟨z,hz,hs,rfl⟩
 ·exact y.keepH x.inv x.env.locH (by simp) e
 ·exact y.keepH x.inv (x.env.cellH z hz hs).1 (by simp) e
noncomputable def iQ(c:Cf)(H:List Addr)(s:QR)(XJ:dF)(XK:St)(p:PV)(v:QM)(s':QR):Prop:=∃ XM,bP c H [] s XJ s' XM XK∧VR s'.heap H XM p v
theorem iQ.next(x:bP c H [] s XJ XZ XE XA)(y:iQ c H XZ XE XB p v X0):iQ c H s XJ XB p v X0:=aH y fun a b r=>⟨a,x.trans b,r⟩
theorem iQ.pst(i:cH c s.heap H XJ Xx)(x:ez s s')(r:VR s'.heap H XJ p v):iQ c H s XJ Xx p v s':=⟨XJ,x.stp i,r⟩
end
noncomputable def kw:List (Str×Option QM):=[(Qn "ArithRewriter",some (QV 1002)),(Qn "BOOL",some (VD 0 367)),(Qn "DEEPEST",some (VD 50 1274)),(Qn "INT",some (VD 1 369)),(Qn "LinearForm",some (QV 740)),(Qn "MINUS_ONE_ratios",some (QV 91)),(Qn "MINUS_ONE_rewrite",some (QV 821)),(Qn "MOST_BITS",some (VD 65536 375)),(Qn "ONE_ratios",some (QV 90)),(Qn "ONE_rewrite",some (QV 820)),(Qn "REAL",some (VD 2 371)),(Qn "TermBank",some (QV 688)),(Qn "VALUE_OPS",some (QV 155)),(Qn "ZERO",some (QV 89)),(Qn "_law_dip",some (QV 1016)),(Qn "_law_feed",some (QV 1009)),(Qn "_law_halves",some (QV 1023)),(Qn "_law_is_meant",some (QV 1064)),(Qn "_law_parted",some (QV 1028)),(Qn "_law_plus",some (QV 1047)),(Qn "_law_say_one",some (QV 1074)),(Qn "_law_side",some (QV 1033)),(Qn "_law_sort_of",some (QV 1069)),(Qn "_law_times",some (QV 1040)),(Qn "_law_worlds",some (QV 1057)),(Qn "_law_worth",some (QV 1052)),(Qn "abs",(none:Option QM)),(Qn "add",some (QV 119)),(Qn "any",(none:Option QM)),(Qn "atom_of_row",some (QV 819)),(Qn "bool",(none:Option QM)),(Qn "compare",some (QV 147)),(Qn "difference_of",some (QV 758)),(Qn "div",some (QV 140)),(Qn "form_of",some (QV 751)),(Qn "gcd_of",some (QV 98)),(Qn "has_whole_terms",some (QV 791)),(Qn "int",(none:Option QM)),(Qn "is_hopeless",some (QV 805)),(Qn "is_whole",some (QV 154)),(Qn "isinstance",(none:Option QM)),(Qn "lcm_of",some (QV 105)),(Qn "len",(none:Option QM)),(Qn "list",(none:Option QM)),(Qn "max",(none:Option QM)),(Qn "min",(none:Option QM)),(Qn "mul",some (QV 133)),(Qn "neg",some (QV 126)),(Qn "range",(none:Option QM)),(Qn "ratio",some (QV 112)),(Qn "reversed",(none:Option QM)),(Qn "row_of_form",some (QV 765)),(Qn "row_truth",some (QV 798)),(Qn "scaled_row",some (QV 770)),(Qn "sorted",(none:Option QM)),(Qn "super",(none:Option QM)),(Qn "term_of_form",some (QV 812)),(Qn "tuple",(none:Option QM)),(Qn "want_small",some (QV 482)),(Qn "whole_factor",some (QV 777)),(Qn "whole_row",some (QV 784)),(Qn "zip",(none:Option QM))]
theorem Bc:∀ P,kw.map (fun x=>nsIn (KF P) Q9 x.1)=kw.map (fun x=>some x.2):=fun P=>by kernel_rfl
theorem gT(h:kw.lookup x=some v)(P:Sp):nsIn (KF P) Q9 x=some v:=SD.mp (Bc P) (x,v) (mem_of_lookup h)
theorem kY{α:Sort _}{β:Sort _}{γ:Sort _}{f g:α→β→γ}(h:f=g)(a:α)(b:β):f a b=g a b:=congrFun (congrFun h a) b
noncomputable def ve(k:Option RT):Bool:=k==some .local||k==some .cell
theorem ty{k:Option RT}(h:ve k=true):k=some .local∨k=some .cell:=by simpa [ve] using h
theorem vf(h:(e.ctorIdx==22)=false)(env:Env):R8 (e::es) env=(false,eval e env)::R8 es env:=by
 cases e<;>first | rfl | cases h
noncomputable abbrev pF(es:List Expr):Prop:=∀ env,R8 es env=es.map fun e=>(false,eval e env)
noncomputable def gy(es:List Expr):Bool:=es.all fun e=>!(e.ctorIdx==22)
theorem eF(h:gy es=true):pF es:=fun env=>by
 induction es with
 | nil=>rfl
 | cons e es ih =>
  rw[gy,List.all_cons,Q4,Tx] at h
  rw[vf h.1,ih h.2];rfl
noncomputable abbrev EF:=Sl→St→Option (PV×St)
noncomputable abbrev TF:=Sl→St→Option (Bool×St)
noncomputable abbrev LF:=Sl→St→Option (List PV×St)
noncomputable def bG(d:Nat)(κ:Nm)(σ:List Str)(e:Expr)(f:EF):Prop :=
 ∀ ⦃c:Cf⦄ ⦃A:R7⦄ ⦃env:Env⦄ ⦃H:List Addr⦄ ⦃XJ:dF⦄ ⦃ρ:Sl⦄ ⦃Xx:St⦄ ⦃s:QR⦄,Rm A d→Ev c κ σ env H XJ ρ Xx s →
  ∀ (p:PV) (XK:St),f ρ Xx=some (p,XK)→QS c.M A (eval e env) (iQ c H s XJ XK p) No s
noncomputable def gL(d:Nat)(κ:Nm)(σ:List Str)(e:Expr)(f:TF):Prop :=
 ∀ ⦃c:Cf⦄ ⦃A:R7⦄ ⦃env:Env⦄ ⦃H:List Addr⦄ ⦃XJ:dF⦄ ⦃ρ:Sl⦄ ⦃Xx:St⦄ ⦃s:QR⦄,Rm A d→Ev c κ σ env H XJ ρ Xx s →
  ∀ (b:Bool) (XK:St),f ρ Xx=some (b,XK)→QS c.M A (isTrue e env (eval e env)) (fun b' s'=>b'=b∧∃ XM,bP c H [] s XJ s' XM XK) No s
noncomputable def fL(d:Nat)(κ:Nm)(σ:List Str)(es:List Expr)(f:LF):Prop :=
 ∀ ⦃c:Cf⦄ ⦃A:R7⦄ ⦃env:Env⦄ ⦃H:List Addr⦄ ⦃XJ:dF⦄ ⦃ρ:Sl⦄ ⦃Xx:St⦄ ⦃s:QR⦄,Rm A d→Ev c κ σ env H XJ ρ Xx s →
  ∀ (ps:List PV) (XK:St),f ρ Xx=some (ps,XK)→∀ pos:Pos,QS c.M A (spliced (TE pos (R8 es env))) (fun vs s'=>∃ XM,bP c H [] s XJ s' XM XK∧cG s'.heap H XM ps vs) No s
section
variable {M:Model} {A:R7} {α:Type} {t:Sem α} {Q Q':α→QR→Prop} {E:QM→QR→Prop} {s:QR}
theorem br(h:QS M A t Q No s)(k:∀ v s',Q v s'→Q' v s'):QS M A t Q' E s:=S8 h k fun _ _ x=>x.elim
end
noncomputable def ae(d:QC):EF:=fun _ Xx=>some (.dat d,Xx)
noncomputable abbrev NK(o:Option (Option PV))(Xx:St):Option (PV×St):=match o with
 | some (some p)=>some (p,Xx)
 | some none=>none
 | none=>none
theorem Pw{Xx:St}(h:NK o Xx=some r):∃ p,o=some (some p)∧r=(p,Xx):=by
 rcases o with _ | _ | p
 ·exact dK h
 ·exact dK h
 ·cases h;exact⟨_,rfl,rfl⟩
noncomputable def aa(i:Nat):EF:=fun ρ Xx=>NK ρ[i]? Xx
noncomputable def B9(v:QM):EF:=fun _ Xx=>some (.stat v,Xx)
noncomputable def lO(g:QC→Option QC)(f:EF):EF:=fun ρ Xx=>dh gK (f ρ Xx) fun a XA=>(g a).map fun r=>(.dat r,XA)
noncomputable def am(g:QC→QC→Option QC)(X8 X9:EF):EF:=fun ρ Xx=>dh gK (X8 ρ Xx) fun a XA=>dh gK (X9 ρ XA) fun b XB=>(g a b).map fun r=>(.dat r,XB)
noncomputable def ao(f:EF):TF:=fun ρ Xx=>dh GJ (f ρ Xx) fun b XA=>some (b,XA)
noncomputable def ky(f:TF):TF:=fun ρ Xx=>pP (f ρ Xx) fun b XA=>some (!b,XA)
noncomputable def gq(f g:TF):TF:=fun ρ Xx=>lJ (f ρ Xx) (g ρ) fun XA=>some (false,XA)
noncomputable def jz(f g:TF):TF:=fun ρ Xx=>lJ (f ρ Xx) (fun XA=>some (true,XA)) (g ρ)
noncomputable def sn(f:EF):EF:=fun ρ Xx=>dh GJ (f ρ Xx) fun b XA=>some (.dat (.bool (!b)),XA)
noncomputable def wj(f g:EF):EF:=fun ρ Xx=>lJ (ao f ρ Xx) (g ρ) fun XA=>some (.dat (.bool false),XA)
noncomputable def Kv(f g:EF):EF:=fun ρ Xx=>lJ (ao f ρ Xx) (fun XA=>some (.dat (.bool true),XA)) (g ρ)
noncomputable def eV(t:TF)(f g:EF):EF:=fun ρ Xx=>lJ (t ρ Xx) (f ρ) (g ρ)
noncomputable def af:LF:=fun _ Xx=>some ([],Xx)
noncomputable def ac(f:EF)(g:LF):LF:=fun ρ Xx=>pP (f ρ Xx) fun p XA=>pP (g ρ XA) fun ps XB=>some (p::ps,XB)
noncomputable def Ca:EF:=fun _ _=>none
noncomputable def gM:List PV→Option (List QC)
 | []=>some []
 | p::r=>(gK p).bind fun d=>(gM r).map (d::·)
theorem kz:gM (p::r)=(gK p).bind fun d=>(gM r).map (d::·):=rfl
theorem lP:gM []=some []:=rfl
theorem ia:∀ {ps:List PV} {ds:List QC},gM ps=some ds→ps=ds.map .dat:=by
 intro a_
 induction a_ with
 | nil =>
  intro ds e
  cases e;rfl
 | cons p r ih =>
  intro ds e
  refine aH (mO e) fun d hd e=>?_
  refine aH (Qx.mp e) fun l hl e=>?_
  subst e
  rw[ih hl,nQ hd];rfl
noncomputable def small{α:Type}(l:List α):Bool:=l.length≤2 ^ 20
noncomputable def bp(f:LF):EF:=fun ρ Xx=>pP (f ρ Xx) fun ps XA=>(gM ps).bind fun ds=>if small ds then some (.dat (.tuple ds),XA) else none
noncomputable def dT(f:LF):EF:=fun ρ Xx=>pP (f ρ Xx) fun ps XA=>(gM ps).bind fun ds=>if small ds then some (.dat (.list ds),XA) else none
section
variable {d:Nat} {κ:Nm} {σ:List Str}
theorem Dw:bG d κ σ e Ca:=fun _ _ _ _ _ _ _ _ _ _ _ _ h=>by cases h
theorem ai:bG d κ σ (.Constant (.int i) k pos) (ae (.int i)):=fun _ _ _ _ _ _ _ _ _ x _ _ h=>by
 obtain⟨rfl,rfl⟩:=dg h
 exact Uh (.pst x.inv .tok ⟨[],.int _ _⟩)
theorem bc:bG d κ σ (.Constant (.str i) k pos) (ae (.str i)):=fun _ _ _ _ _ _ _ _ _ x _ _ h=>by
 obtain⟨rfl,rfl⟩:=dg h
 exact Constant_str (.pst x.inv .tok ⟨[],.str _ _⟩)
theorem fD:bG d κ σ (.Constant (.bool i) k pos) (ae (.bool i)):=fun _ _ _ _ _ _ _ _ _ x _ _ h=>by
 obtain⟨rfl,rfl⟩:=dg h
 exact QB (.pst x.inv .refl ⟨[],.bool _⟩)
theorem xg:bG d κ σ (.Constant .none k pos) (ae .none):=fun _ _ _ _ _ _ _ _ _ x _ _ h=>by
 obtain⟨rfl,rfl⟩:=dg h
 exact QB (.pst x.inv .refl ⟨[],.none⟩)
theorem ab(hx:σ[i]?=some x:=by rfl)(hd:(x==("__debug__":Str))=false:=by kernel_rfl)(hn:(x==("__classdict__":Str))=false:=by kernel_rfl):
  bG d κ σ (.Name x pos) (aa i):=fun {c A env H XJ ρ Xx s} _ y p XK h=>by
 ·refine aH (Pw h) fun q hq e=>?_
  cases e
  refine mH (y.env.vars) fun m cm hns hcs f=>?_
  refine aH (f i x p hx hq) fun v hv hr=>?_
  refine wpAny_Name ?_ hd
  have fin:iQ c H s XJ Xx p v s:=.pst y.inv .refl hv
  rcases hr with⟨hk,hm⟩ | ⟨hk,⟨a,ha⟩,hm⟩
  ·exact Vr y.env.kind (by unfold Sf;rw[y.env.names];exact hk) hns hm fin
  ·have hc:=hcs x a (QU hx) ha
   rw[hm] at hc
   rcases hk with hk | hk
   ·exact wpAny_loadName_cell y.env.kind (by unfold Sf;rw[y.env.names];exact hk) ha hc fin
   ·exact VF y.env.kind (by unfold Sf;rw[y.env.names];exact hk) ha hc fin hn
theorem xh(hg:∀ P,nsIn (KF P) Q9 x=some (some v))(hk:κ.lookup x=some .globalImplicit:=by kernel_rfl)(hd:(x==("__debug__":Str))=false:=by kernel_rfl):
  bG d κ σ (.Name x pos) (B9 v):=fun {c A env H XJ ρ Xx s} _ y p XK h=>by
 obtain⟨rfl,rfl⟩:=dg h
 refine TP y.env.kind (by unfold Sf;rw[y.env.names];exact hk) ?_ hd
 unfold WP
 rw[y.env.glob]
 have hK:=y.inv.ok.hK
 exact Qr ((VT y.inv.KIn (hK▸hg c.P)).here (QB (.pst y.inv .refl rfl)))
theorem DR.base{Xx:St}(i:cH c h H XJ Xx)(r:∃ as,Reads c.h₀ v dt as):DR h (H++ow XJ) dt v:=by
 refine bM (r) fun as r=>?_
 refine⟨as,Reads.keeps (fun b o e=>?_) r⟩
 exact TN _ (i.stays b o e) fun hm=>by have:=i.fresh b hm;rw[e] at this;cases this
theorem bm (hr:∀ P h,(KF P).In h→∃ as,Reads h v dt as) (hg:kw.lookup x=some (some v):=by kernel_rfl) (hk:κ.lookup x=some .globalImplicit:=by kernel_rfl)
  (hd:(x==("__debug__":Str))=false:=by kernel_rfl):bG d κ σ (.Name x pos) (ae dt):=fun {c A env H XJ ρ Xx s} _ y p XK h=>by
 obtain⟨rfl,rfl⟩:=dg h
 refine TP y.env.kind (by unfold Sf;rw[y.env.names];exact hk) ?_ hd
 unfold WP
 rw[y.env.glob]
 have hK:=y.inv.ok.hK
 exact Qr ((VT y.inv.KIn (hK▸(gT hg) c.P)).here (QB (.pst y.inv .refl (DR.base y.inv (hr c.P c.h₀ (hK▸y.inv.ok.K))))))
noncomputable def NL(op:QM→Sem QM)(g:QC→Option QC):Prop:=∀ ⦃c:Cf⦄ ⦃A:R7⦄ ⦃H:List Addr⦄ ⦃s:QR⦄ ⦃v:QM⦄ ⦃a r:QC⦄,Rm A 0→DR s.heap H a v→g a=some r →
 QS c.M A (op v) (fun u s'=>ez s s'∧DR s'.heap H r u) No s
noncomputable def jY(op:QM→QM→Sem QM)(g:QC→QC→Option QC):Prop:=∀ ⦃c:Cf⦄ ⦃A:R7⦄ ⦃H:List Addr⦄ ⦃s:QR⦄ ⦃v w:QM⦄ ⦃a b r:QC⦄,Rm A 0→DR s.heap H a v→DR s.heap H b w→g a b=some r →
 QS c.M A (op v w) (fun u s'=>ez s s'∧DR s'.heap H r u) No s
theorem um{Xx:St}(h:am g X8 X9 ρ Xx=some (p,XK)):
  ∃ a XA b r,X8 ρ Xx=some (.dat a,XA)∧X9 ρ XA=some (.dat b,XK)∧g a b=some r∧p=.dat r:=by
 refine cz (mD h) fun a XA h1 h=>?_
 refine cz (mD h) fun b XB h2 h=>?_
 refine aH (Qx.mp h) fun r hr e=>?_
 cases e
 exact⟨a,XA,b,r,h1,h2,hr,rfl⟩
theorem bg(o:jY (Ui op) g)(XZ:bG d κ σ e₁ X8)(X0:bG d κ σ e₂ X9):
  bG d κ σ (.BinOp e₁ op e₂ pos) (am g X8 X9):=fun _ _ _ _ _ _ _ _ r y p XK h=>by
 refine GG (um h) fun a XA b x h1 h2 hr e_7=>?_
 subst e_7
 refine wpAny_BinOp (br (XZ r y _ _ h1) fun v s' z=>aH z fun XE x1 r1=>br (X0 r (y.step x1) _ _ h2) fun w s'' z=>aH z fun XF x2 r2=>?_)
 exact br (o (r.le (Ry _)) (x2.vr r1) r2 hr) fun u t z=>bA z fun z1 z2=>.next (x1.trans x2) (.pst x2.inv z1 z2)
theorem cU(o:jY (Sb op) g)(XZ:bG d κ σ e₁ X8)(X0:bG d κ σ e₂ X9)(hm:Th op e₂=false:=by kernel_rfl):
  bG d κ σ (.Compare e₁ [op] [e₂] pos) (am g X8 X9):=fun _ _ _ _ _ _ _ _ r y p XK h=>by
 refine GG (um h) fun a XA b x h1 h2 hr e_7=>?_
 subst e_7
 refine wpAny_Compare1 (br (XZ r y _ _ h1) fun v s' z=>aH z fun XE x1 r1=>br (X0 r (y.step x1) _ _ h2) fun w s'' z=>aH z fun XF x2 r2=>?_) hm
 exact br (o (r.le (Ry _)) (x2.vr r1) r2 hr) fun u t z=>bA z fun z1 z2=>.next (x1.trans x2) (.pst x2.inv z1 z2)
theorem DR.bool(r:DR h H (.bool b) v):v=.bool b:=by obtain⟨_,r⟩:=r;cases r;rfl
theorem DR.int(r:DR h H (.int b) v):∃ t,v=.int b t:=by obtain⟨_,r⟩:=r;cases r;exact⟨_,rfl⟩
theorem DR.none(r:DR h H .none v):v=.none:=by obtain⟨_,r⟩:=r;cases r;rfl
theorem aK(o:jY (Sb op) g)(XZ:bG d κ σ e₁ X8)(X0:bG d κ σ e₂ X9)(hm:Th op e₂=false:=by kernel_rfl):
  gL d κ σ (.Compare e₁ [op] [e₂] pos) (ao (am g X8 X9)):=fun _ _ _ _ _ _ _ _ r y p XK h=>by
 refine cz (mB h) fun q XA h' h=>?_
 cases h
 refine GG (um h') fun a XA b x h1 h2 hr hx=>?_
 cases hx
 refine S2 (br (XZ r y _ _ h1) fun v s' z=>aH z fun XE x1 r1=>br (X0 r (y.step x1) _ _ h2) fun w s'' z=>aH z fun XF x2 r2=>?_) hm
 refine br (o (r.le (Ry _)) (x2.vr r1) r2 hr) fun u t z=>bA z fun z1 z2=>?_
 rw[z2.bool]
 exact Q3 ⟨rfl,XF,(x1.trans x2).trans (z1.stp x2.inv)⟩
theorem dY(XZ:bG d κ σ e f)(he:(fun env whole=>isTrue e env whole)=fun env whole=>(do let v ← whole;Su e.pos;S5 [v] (truthy v)):=by rfl):gL d κ σ e (ao f):=fun _ _ _ _ _ _ _ _ r y p XK h=>by
 refine cz (mB h) fun q XA h' h=>?_
 cases h
 refine isTrue_plain (br (XZ r y _ _ h') fun v s' z=>aH z fun XE x1 r1=>?_) (kY he _ _)
 rw[DR.bool r1]
 exact Q3 ⟨rfl,XE,x1⟩
theorem kA(XZ:gL d κ σ e f):gL d κ σ (.UnaryOp .Not e pos) (ky f):=fun _ _ _ _ _ _ _ _ r y p XK h=>by
 refine cz (mP h) fun b XA h' h=>?_
 obtain⟨rfl,rfl⟩:=dg h
 exact isTrue_not (br (XZ r y _ _ h') fun b' s' z=>bA z fun e x=>⟨by rw[e],x⟩)
theorem gr(XZ:gL d κ σ e f):gL d κ σ (.BoolOp .Or [e] pos) f:=fun _ _ _ _ _ _ _ _ r y p XK h =>
 isTrue_or (br (XZ r y _ _ h) fun b s' z=>bA z fun q x=>by cases b with | false=>exact isTrue_or_nil ⟨q,x⟩ | true=>exact⟨q,x⟩)
theorem fE(XZ:gL d κ σ e f):gL d κ σ (.BoolOp .And [e] pos) f:=fun _ _ _ _ _ _ _ _ r y p XK h =>
 isTrue_and (br (XZ r y _ _ h) fun b s' z=>bA z fun q x=>by cases b with | false=>exact⟨q,x⟩ | true=>exact isTrue_and_nil ⟨q,x⟩)
theorem hE(XZ:gL d κ σ e f)(X0:gL d κ σ (.BoolOp .Or Xz pos) g):gL d κ σ (.BoolOp .Or (e::Xz) pos) (jz f g):=fun {c A env H XJ ρ Xx s} r y p XK h=>by
 refine isTrue_or ?_
 refine xe h (fun XA h' h=>?_) fun XA h' h=>?_
 ·obtain⟨rfl,rfl⟩:=dg h
  exact br (XZ r y _ _ h') fun b s' z=>bA z fun q x=>by cases q;exact⟨rfl,x⟩
 ·refine br (XZ r y _ _ h') fun b s' z=>bA z fun q z=>bM z fun XE x=>?_
  cases q
  exact br (X0 r (y.step x) _ _ h) fun b s'' z=>bA z fun q z=>bM z fun XF x2=>⟨q,XF,x.trans x2⟩
theorem fN(XZ:gL d κ σ e f)(X0:gL d κ σ (.BoolOp .And Xz pos) g):gL d κ σ (.BoolOp .And (e::Xz) pos) (gq f g):=fun {c A env H XJ ρ Xx s} r y p XK h=>by
 refine isTrue_and ?_
 refine xe h (fun XA h' h=>?_) fun XA h' h=>?_
 ·refine br (XZ r y _ _ h') fun b s' z=>bA z fun q z=>bM z fun XE x=>?_
  cases q
  exact br (X0 r (y.step x) _ _ h) fun b s'' z=>bA z fun q z=>bM z fun XF x2=>⟨q,XF,x.trans x2⟩
 ·obtain⟨rfl,rfl⟩:=dg h
  exact br (XZ r y _ _ h') fun b s' z=>bA z fun q x=>by cases q;exact⟨rfl,x⟩
theorem uo(XZ:bG d κ σ e f):bG d κ σ (.UnaryOp .Not e pos) (sn f):=fun _ _ _ _ _ _ _ _ r y p XK h=>by
 refine cz (mB h) fun b XA h' h=>?_
 cases h
 refine UnaryOp_ (br (XZ r y _ _ h') fun v s' z=>aH z fun XE x1 r1=>?_)
 rw[DR.bool r1]
 exact not_of (Q3 (.next x1 (.pst x1.inv .refl ⟨[],.bool _⟩)))
theorem qA(o:NL (unaryOp op) g)(XZ:bG d κ σ e f):bG d κ σ (.UnaryOp op e pos) (lO g f):=fun _ _ _ _ _ _ _ _ r y p XK h=>by
 refine cz (mD h) fun b XA h' h=>?_
 refine aH (Qx.mp h) fun z hz e=>?_
 cases e
 exact UnaryOp_ (br (XZ r y _ _ h') fun v s' z=>aH z fun XE x1 r1=>br (o (r.le (Ry _)) r1 hz) fun u t z=>bA z fun z1 z2=>.next x1 (.pst x1.inv z1 z2))
theorem rc(XZ:bG d κ σ e f):bG d κ σ (.BoolOp op [e] pos) f:=fun _ _ _ _ _ _ _ _ r y p XK h=>BoolOp_one (XZ r y _ _ h)
theorem Be(XZ:bG d κ σ e f)(X0:bG d κ σ (.BoolOp .Or (e₂::Xz) pos) g):bG d κ σ (.BoolOp .Or (e::e₂::Xz) pos) (Kv f g):=fun {c A env H XJ ρ Xx s} r y p XK h=>by
 refine BoolOp_or ?_
 refine xe h (fun XA h' h=>?_) fun XA h' h=>?_
 ·refine cz (mB h') fun b XB h' e=>?_
  cases dg e |>.1;cases dg e |>.2
  obtain⟨rfl,rfl⟩:=dg h
  refine br (XZ r y _ _ h') fun v s' z=>aH z fun XE x1 r1=>?_
  have e:=DR.bool r1;subst e
  exact Q3 ⟨XE,x1,r1⟩
 ·refine cz (mB h') fun b XB h' e=>?_
  cases dg e |>.1;cases dg e |>.2
  refine br (XZ r y _ _ h') fun v s' z=>aH z fun XE x1 r1=>?_
  have e:=DR.bool r1;subst e
  exact Q3 (br (X0 r (y.step x1) _ _ h) fun u t z=>.next x1 z)
theorem uq(XZ:bG d κ σ e f)(X0:bG d κ σ (.BoolOp .And (e₂::Xz) pos) g):bG d κ σ (.BoolOp .And (e::e₂::Xz) pos) (wj f g):=fun {c A env H XJ ρ Xx s} r y p XK h=>by
 refine BoolOp_and ?_
 refine xe h (fun XA h' h=>?_) fun XA h' h=>?_
 ·refine cz (mB h') fun b XB h' e=>?_
  cases dg e |>.1;cases dg e |>.2
  refine br (XZ r y _ _ h') fun v s' z=>aH z fun XE x1 r1=>?_
  have e:=DR.bool r1;subst e
  exact Q3 (br (X0 r (y.step x1) _ _ h) fun u t z=>.next x1 z)
 ·refine cz (mB h') fun b XB h' e=>?_
  cases dg e |>.1;cases dg e |>.2
  obtain⟨rfl,rfl⟩:=dg h
  refine br (XZ r y _ _ h') fun v s' z=>aH z fun XE x1 r1=>?_
  have e:=DR.bool r1;subst e
  exact Q3 ⟨XE,x1,r1⟩
theorem eL(X5:gL d κ σ t ft)(XZ:bG d κ σ e₁ f)(X0:bG d κ σ e₂ g):bG d κ σ (.IfExp t e₁ e₂ pos) (eV ft f g):=fun {c A env H XJ ρ Xx s} r y p XK h=>by
 refine IfExp_ ?_
 refine xe h (fun XA h' h=>?_) fun XA h' h=>?_
 ·refine br (X5 r y _ _ h') fun b s' z=>bA z fun q z=>bM z fun XE x=>?_
  cases q
  exact br (XZ r (y.step x) _ _ h) fun u t z=>.next x z
 ·refine br (X5 r y _ _ h') fun b s' z=>bA z fun q z=>bM z fun XE x=>?_
  cases q
  exact br (X0 r (y.step x) _ _ h) fun u t z=>.next x z
theorem cV:fL d κ σ [] af:=fun _ _ _ _ _ _ _ _ r y p XK h pos=>by
 obtain⟨rfl,rfl⟩:=dg h
 exact V2 ⟨_,.refl y.inv,.nil⟩
theorem aQ(XZ:bG d κ σ e f)(X0:fL d κ σ es g)(he:(e.ctorIdx==22)=false:=by rfl):fL d κ σ (e::es) (ac f g):=fun {c A env H XJ ρ Xx s} r y ps XK h pos=>by
 refine cz (mP h) fun p XA h1 h=>?_
 refine cz (mP h) fun qs XB h2 h=>?_
 obtain⟨rfl,rfl⟩:=dg h
 refine spliced_more (br (XZ r y _ _ h1) fun v s' z=>aH z fun XE x1 r1=>br (X0 r (y.step x1) _ _ h2 pos) fun vs s'' z=>aH z fun XF x2 r2=>?_) (vf he env)
 exact⟨XF,x1.trans x2,.cons (x2.vr r1) r2⟩
theorem aO(s:bG d κ σ e f)(h:(e.ctorIdx==22)=false:=by rfl):fL d κ σ [e] (ac f af):=aQ s cV h
theorem aB(s:bG d κ σ e f)(s':bG d κ σ e' f')(h:(e.ctorIdx==22)=false:=by rfl)(h':(e'.ctorIdx==22)=false:=by rfl):fL d κ σ [e,e'] (ac f (ac f' af)):=aQ s (aO s' h') h
theorem cG.dats{ds:List QC}:∀ {vs:List QM},cG h H XJ (ds.map .dat) vs→∃ as,Rf (Tv h (H++ow XJ)) vs ds as:=by
 induction ds with
 | nil=>intro vs r;cases r;exact⟨[],.nil⟩
 | cons d ds ih =>
  intro vs r
  cases r with
  | cons a r=>exact bM a fun as a=>bM (ih r) fun bs b=>⟨as++bs,.cons a b⟩
theorem mQ{h:Heap}(hl:∀ a∈H,(h.get? a).isSome=true)(n:o.isFreed=false):(Tv (h.push o) H).get? h.objs.size=some o :=
 TN H (QI _ n) fun hm=>by
  obtain⟨ob,e⟩:=Qy.mp (hl _ hm)
  exact Ti _ (Q1 e)
theorem cH.live{Xx:St}(i:cH c h H XJ Xx):∀ a∈H++ow XJ,(h.get? a).isSome=true:=fun a ha=>by
 rcases Qw.mp ha with m | m
 ·exact i.alive a m
 ·obtain⟨o,e⟩:=i.rep.live m;rw[e];rfl
theorem bD(XZ:fL d κ σ es f):bG d κ σ (.Tuple es k pos) (bp f):=fun {c A env H XJ ρ Xx s} r y p XK h=>by
 refine cz (mP h) fun ps XA h1 h=>?_
 refine aH (mO h) fun ds hd h=>?_
 obtain⟨hs,h⟩:=mI h
 obtain⟨rfl,rfl⟩:=dg h
 rw[ia hd] at h1
 refine WA (br (XZ r y _ _ h1 pos) fun vs s' z=>aH z fun XE x1 r1=>?_)
 have hl:=r1.length
 simp only[Qs] at hl
 obtain⟨as,r2⟩:=cG.dats r1
 have pk:∀ b o,s'.heap.get? b=some o→(s'.heap.push { cls:=.type "tuple",data:=.seq vs.toArray }).get? b=some o:=fun b o e=>Qz _ e
 refine⟨?_,.next x1 (.pst x1.inv ⟨pk,_,_,rfl⟩ ⟨as,.tuple (mQ x1.inv.live rfl) rfl rfl ?_⟩)⟩
 ·have:ds.length≤2 ^ 20:=of_decide_eq_true hs
  rw[← hl];exact QH this (by decide)
 ·exact Sq (fun b o e=>(eg.hide (H':=H++ow XE) fun b o e n=>⟨pk b o e,n⟩) b o e) r2
theorem eh(XZ:fL d κ σ es f):bG d κ σ (.List es pos) (dT f):=fun {c A env H XJ ρ Xx s} r y p XK h=>by
 refine cz (mP h) fun ps XA h1 h=>?_
 refine aH (mO h) fun ds hd h=>?_
 obtain⟨hs,h⟩:=mI h
 obtain⟨rfl,rfl⟩:=dg h
 rw[ia hd] at h1
 refine wpAny_List (br (XZ r y _ _ h1 pos) fun vs s' z=>aH z fun XE x1 r1=>?_)
 have hl:=r1.length
 simp only[Qs] at hl
 obtain⟨as,r2⟩:=cG.dats r1
 have pk:∀ b o,s'.heap.get? b=some o→(s'.heap.push { cls:=.type "list",data:=.seq vs.toArray }).get? b=some o:=fun b o e=>Qz _ e
 refine⟨?_,.next x1 (.pst x1.inv ⟨pk,_,_,rfl⟩ ⟨_::as,.list (mQ x1.inv.live rfl) rfl rfl ?_⟩)⟩
 ·have:ds.length≤2 ^ 20:=of_decide_eq_true hs
  rw[← hl];exact QH this (by decide)
 ·exact Sq (fun b o e=>(eg.hide (H':=H++ow XE) fun b o e n=>⟨pk b o e,n⟩) b o e) r2
end
inductive Fl where
 | next
 | cont
 | ret (p:PV)
 deriving Inhabited
noncomputable abbrev SF:=Sl→St→Option (Fl×Sl×St)
noncomputable def Dx(h:Heap)(H:List Addr)(XJ:dF):Fl→Flow→Prop
 | .next,.next=>True
 | .cont,.cont=>True
 | .ret p,.ret v=>VR h H XJ p v
 | _,_=>False
noncomputable def own(σ:List Str)(env:Env):List Addr:=env.locals::(env.cells.filter fun x=>σ.contains x.1).map (·.2)
theorem gi:a∈own σ env↔a=env.locals∨∃ y∈env.cells,y.1∈σ∧y.2=a:=by
 unfold own
 simp only[QJ,QL,RH,S3]
 constructor
 ·rintro(h | ⟨y,⟨h1,h2⟩,h3⟩)
  ·exact .inl h
  ·exact .inr ⟨y,h1,h2,h3⟩
 ·rintro(h | ⟨y,h1,h2,h3⟩)
  ·exact .inl h
  ·exact .inr ⟨y,⟨h1,h2⟩,h3⟩
noncomputable def ur(c:Cf)(κ:Nm)(σ:List Str)(env:Env)(H:List Addr)(s:QR)(XJ:dF)(fl:Fl)(Yg:Sl)(XK:St)(r:Flow)(s':QR):Prop :=
 ∃ XM,bP c H (own σ env) s XJ s' XM XK∧er κ σ env s'.heap H XM Yg∧Dx s'.heap H XM fl r
noncomputable def io(d:Nat)(κ:Nm)(σ:List Str)(t:Stmt)(f:SF):Prop :=
 ∀ ⦃c:Cf⦄ ⦃A:R7⦄ ⦃env:Env⦄ ⦃H:List Addr⦄ ⦃XJ:dF⦄ ⦃ρ:Sl⦄ ⦃Xx:St⦄ ⦃s:QR⦄,Rm A d→Ev c κ σ env H XJ ρ Xx s →
  ∀ (fl:Fl) (Yg:Sl) (XK:St),f ρ Xx=some (fl,Yg,XK)→QS c.M A (exec t env) (ur c κ σ env H s XJ fl Yg XK) No s
noncomputable def fm(d:Nat)(κ:Nm)(σ:List Str)(ts:List Stmt)(f:SF):Prop :=
 ∀ ⦃c:Cf⦄ ⦃A:R7⦄ ⦃env:Env⦄ ⦃H:List Addr⦄ ⦃XJ:dF⦄ ⦃ρ:Sl⦄ ⦃Xx:St⦄ ⦃s:QR⦄,Rm A d→Ev c κ σ env H XJ ρ Xx s →
  ∀ (fl:Fl) (Yg:Sl) (XK:St),f ρ Xx=some (fl,Yg,XK)→QS c.M A (execs ts env) (ur c κ σ env H s XJ fl Yg XK) No s
section
variable {c:Cf} {κ:Nm} {σ:List Str} {env:Env} {H X:List Addr} {XJ XE XF XM:dF} {ρ Yg:Sl} {Xx XA XB XK:St} {s XZ X0 s':QR} {fl:Fl} {r:Flow}
theorem er.own(x:er κ σ env s.heap H XJ ρ):∀ a∈own σ env,a∈H:=fun a ha=>by
 rcases gi.mp ha with rfl | ⟨y,hy,hs,rfl⟩
 ·exact x.locH
 ·exact(x.cellH y hy hs).1
theorem cH.touch(i:cH c h H XJ Xx)(hX:∀ a∈X,a∈H)(k:∀ b o,b∉X→h.get? b=some o→h'.get? b=some o)(l:∀ a∈X,(h'.get? a).isSome=true):cH c h' H XJ Xx:=by
 refine⟨i.ok,⟨i.rep.len,i.rep.nodup,i.rep.apart,fun j o e=>?_⟩,fun b o e=>k b o (fun hm=>?_) (i.stays b o e),i.fresh,fun a ha=>?_⟩
 ·refine aH (i.rep.objs j o e) fun p e1 e2=>?_
  refine⟨p,e1,?_⟩
  have hm:p.2∈ow XJ:=QL.mpr ⟨p,QU e1,rfl⟩
  have:=e2.mono (h':=h') (H':=H) (new:=[]) (fun b ob q n=>⟨k b ob (fun hm=>n (Qq _ (hX b hm))) q,by simpa using n⟩) (k p.2 · (fun hx=>i.rep.apart _ hm (hX _ hx)))
  simpa using this
 ·have:=i.fresh b (Qq _ (hX b hm));rw[e] at this;cases this
 ·by_cases hm:a∈X
  ·exact l a hm
  ·refine bM (Qy.mp (i.alive a ha)) fun o e=>?_
   rw[k a o hm e];rfl
theorem cH.touchStp(i:cH c s.heap H XJ Xx)(hX:∀ a∈X,a∈H)(k:∀ b o,b∉X→s.heap.get? b=some o→h'.get? b=some o)(l:∀ a∈X,(h'.get? a).isSome=true):
  bP c H X s XJ { s with heap:=h',toks:=t } XJ Xx :=
 ⟨hX,i.touch hX k l,⟨[],by simp,by simp[ow]⟩,fun b o e n _=>k b o n e,_,_,rfl⟩
theorem Ns.live{h:Heap}(n:h.Ns a m):(h.get? a).isSome=true:=by
 obtain⟨o,es,ep,e,_⟩:=n;rw[e];rfl
theorem iR(y:Ev c κ σ env H XJ ρ Xx s)(hi:σ[i]?=some x)(nd:σ.Nodup)(hk:κ.lookup x=some .local∨κ.lookup x=some .cell)(r:VR s.heap H XJ p v):
  QS M A (W7 env x v) (fun _ s'=>bP c H (own σ env) s XJ s' XJ Xx∧er κ σ env s'.heap H XJ (ρ.set i (some p))) No s:=by
 revert c κ σ env H XJ ρ Xx s i x p v M A
 refine @mG _ _ _ _ _ _ _ _ _ (bi ox nI) ?_
 generalize q1 _=c,q2 _=κ,q3 _=σ,q4 _=env,q5 _=H,q6 _=XJ,q7 _=ρ,qe _=Xx
 refine @jV _ _ _ _ _ _ _ _ (bi kL (bi nI (bi nI (bi nI (bi nI (bi Pp qy)))))) ?_
 generalize q1 _=s,q2 _=i,q3 _=x,q4 _=p,q5 _=v,q6 _=M,qe _=A
 intro y hi nd hk r
 refine mH (y.env.vars) fun m cm hn hc f=>?_
 have other:∀ j z,σ[j]?=some z→j≠i→z≠x:=fun j z e ne q=>by
  subst q
  exact ne (by
   have h1:=(Qt.mp e)
   have h2:=(Qt.mp hi)
   obtain⟨l1,e1⟩:=h1
   obtain⟨l2,e2⟩:=h2
   exact(Sj nd).mp (e1.trans e2.symm))
 rcases hk with hk | hk
 ·have hkind:env.kindOf x=some .local:=by unfold Sf;rw[y.env.names];exact hk
  refine Vf hkind hn (fun h' hn' hs'=>?_) (by rw[y.env.kind];rfl)
  have k:∀ b o,b∉[env.locals]→s.heap.get? b=some o→h'.get? b=some o:=fun b o n e=>hs'.extBut b o (by simpa using n) e
  have S:bP c H [env.locals] s XJ { s with heap:=h',toks:=s.toks+1 } XJ Xx:=y.inv.touchStp (by simpa using y.env.locH) k (by simpa using Ns.live hn')
  refine⟨S.weaken (by simp[own]) y.env.own,y.env.names,y.env.kind,y.env.glob,y.env.blt,y.env.locH,y.env.cellH,y.env.cellsIn,y.env.apart,by rw[SY];exact y.env.len,_,cm,hn',fun n a hs e=>?_,fun j z q ej eq=>?_⟩
  ·exact IsCell.at_ (hc n a hs e) fun o eo=>k a o (by simpa using (y.env.cellH _ (mem_of_lookup e) hs).2) eo
  ·by_cases hj:j=i
   ·subst hj
    rw[hi] at ej;cases ej
    have:q=p:=by
     have hlt:j<ρ.length:=by rw[y.env.len];exact(Qt.mp hi).1
     rw[RW hlt] at eq;cases eq;rfl
    subst this
    exact⟨v,S.vr r,.inl ⟨hk,by simp⟩⟩
   ·rw[SG (Tc hj)] at eq
    refine aH (f j z q ej eq) fun u u1 u2=>?_
    refine⟨u,S.vr u1,?_⟩
    rw[if_neg (other j z ej hj)]
    exact u2
 ·have hkind:env.kindOf x=some .cell:=by unfold Sf;rw[y.env.names];exact hk
  have hx:x∈σ:=QU hi
  refine bM (y.env.cellsIn x hx hk) fun a ha=>?_
  have hcell:=y.env.cellH _ (mem_of_lookup ha) hx
  refine wpAny_storeName_cell y.env.kind hkind ha (hc x a hx ha) (fun h' hc' hs'=>?_)
  have k:∀ b o,b∉[a]→s.heap.get? b=some o→h'.get? b=some o:=fun b o n e=>hs'.extBut b o (by simpa using n) e
  have lv:(h'.get? a).isSome=true:=by obtain⟨o,e,_⟩:=hc';rw[e];rfl
  have S:bP c H [a] s XJ { s with heap:=h' } XJ Xx:=y.inv.touchStp (t:=s.toks) (by simpa using hcell.1) k (by simpa using lv)
  refine⟨S.weaken (fun b hb=>by
   have:b=a:=by simpa using hb
   subst this
   exact gi.mpr (.inr ⟨_,mem_of_lookup ha,hx,rfl⟩)) y.env.own,y.env.names,y.env.kind,y.env.glob,y.env.blt,y.env.locH,y.env.cellH,y.env.cellsIn,y.env.apart,by rw[SY];exact y.env.len,m,fun n=>if n=x then some v else cm n,?_,fun n b hs e=>?_,fun j z q ej eq=>?_⟩
  ·exact hn.at' fun o eo=>k _ o (by simpa using hcell.2.symm) eo
  ·by_cases hnx:n=x
   ·subst hnx;rw[ha] at e;cases e;simpa using hc'
   ·dsimp only
    rw[if_neg hnx]
    refine IsCell.at_ (hc n b hs e) fun o eo=>k b o ?_ eo
    have:b≠a:=fun q=>hnx (y.env.apart _ (mem_of_lookup e) _ (mem_of_lookup ha) q)
    simpa using this
  ·by_cases hj:j=i
   ·subst hj
    rw[hi] at ej;cases ej
    have:q=p:=by
     have hlt:j<ρ.length:=by rw[y.env.len];exact(Qt.mp hi).1
     rw[RW hlt] at eq;cases eq;rfl
    subst this
    exact⟨v,S.vr r,.inr ⟨.inl hk,⟨a,ha⟩,by simp⟩⟩
   ·rw[SG (Tc hj)] at eq
    refine aH (f j z q ej eq) fun u u1 u2=>?_
    refine⟨u,S.vr u1,?_⟩
    dsimp only
    rw[if_neg (other j z ej hj)]
    exact u2
theorem bP.own(x:bP c H [] s XJ XZ XE XA)(y:Ev c κ σ env H XJ ρ Xx s):bP c H (Internal.own σ env) s XJ XZ XE XA:=x.weaken (by simp) y.env.own
end
noncomputable abbrev NM(o:Option (Fl×Sl×St))(g:SF):Option (Fl×Sl×St):=match o with
 | some (.next,X6,XA)=>g X6 XA
 | some (.cont,X6,XA)=>some (.cont,X6,XA)
 | some (.ret p,X6,XA)=>some (.ret p,X6,XA)
 | none=>none
theorem Px{G:Prop}(h:NM o g=some r)(k:∀ a b,o=some (.next,a,b)→g a b=some r→G)(l:o=some r→r.1≠.next→G):G:=by
 rcases o with _ | ⟨_ | _ | p,a,b⟩
 ·exact dK h
 ·exact k _ _ rfl h
 ·cases h;exact l rfl nofun
 ·cases h;exact l rfl nofun
noncomputable def ah(f g:SF):SF:=fun ρ Xx=>NM (f ρ Xx) g
noncomputable def az:SF:=fun ρ Xx=>some (.next,ρ,Xx)
noncomputable def aW(f:EF):SF:=fun ρ Xx=>pP (f ρ Xx) fun p XA=>some (.ret p,ρ,XA)
noncomputable def bQ(i:Nat)(f:EF):SF:=fun ρ Xx=>pP (f ρ Xx) fun p XA=>some (.next,ρ.set i (some p),XA)
noncomputable def bJ(t:TF)(f g:SF):SF:=fun ρ Xx=>lJ (t ρ Xx) (f ρ) (g ρ)
noncomputable def fq:SF:=fun _ _=>none
section
variable {d:Nat} {κ:Nm} {σ:List Str}
theorem ed:io d κ σ t fq:=fun _ _ _ _ _ _ _ _ _ _ _ _ _ h=>by cases h
theorem aX:fm d κ σ [] az:=fun _ _ _ _ _ _ _ _ r y _ _ _ h=>by
 refine iL (jp h) fun XV XW XX=>?_
 subst XV XW XX
 exact Vb ⟨_,(bP.refl y.inv).own y,y.env,trivial⟩
theorem au(XZ:io d κ σ t f)(X0:fm d κ σ ts g):fm d κ σ (t::ts) (ah f g):=fun {c A env H XJ ρ Xx s} r y fl Yg XK h=>by
 refine wpAny_execs_cons ?_
 refine Px h (fun X6 XA h1 h=>?_) fun h h1=>?_
 ·refine br (XZ r y _ _ _ h1) fun v s' z=>d9 z fun XE x e q=>?_
  cases v<;>first | exact q.elim | skip
  refine br (X0 r ⟨e,x.inv⟩ _ _ _ h) fun v s'' z=>d9 z fun XF x2 e2 q2=>⟨XF,x.trans x2,e2,q2⟩
 ·refine br (XZ r y _ _ _ h) fun v s' z=>?_
  cases v with
  | next =>
   refine d9 (z) fun XE x e q=>?_
   cases fl with
   | next=>exact absurd rfl h1
   | cont=>exact q.elim
   | ret=>exact q.elim
  | _=>exact z
theorem aD(s:io d κ σ t f):fm d κ σ [t] (ah f az):=au s aX
theorem aJ(XZ:bG d κ σ e f):io d κ σ (.Return (some e) pos) (aW f):=fun {c A env H XJ ρ Xx s} r y fl Yg XK h=>by
 refine cz (mP h) fun p XA h1 h=>?_
 refine iL (jp h) fun XV XW XX=>?_
 subst XV XW XX
 exact wpAny_Return_some (br (XZ r y _ _ h1) fun v s' z=>aH z fun XE x q=>⟨XE,x.own y,(y.step x).env,q⟩)
theorem yv:io d κ σ (.Return none pos) (aW (ae .none)):=fun {c A env H XJ ρ Xx s} r y fl Yg XK h=>by
 refine iL (jp h) fun XV XW XX=>?_
 subst XV XW XX
 exact wpAny_Return_none ⟨XJ,(bP.refl y.inv).own y,y.env,⟨[],.none⟩⟩
theorem aZ(X5:gL d κ σ t ft)(XZ:fm d κ σ b₁ f)(X0:fm d κ σ b₂ g):io d κ σ (.If t b₁ b₂ pos) (bJ ft f g):=fun {c A env H XJ ρ Xx s} r y fl Yg XK h=>by
 refine wpAny_If ?_
 refine xe h (fun XA h' h=>?_) fun XA h' h=>?_
 ·refine br (X5 r y _ _ h') fun b s' z=>bA z fun q z=>bM z fun XE x=>?_
  cases q
  exact br (XZ r (y.step x) _ _ _ h) fun u t z1=>aH z1 fun a b z=>⟨a,(x.own y).trans b,z⟩
 ·refine br (X5 r y _ _ h') fun b s' z=>bA z fun q z=>bM z fun XE x=>?_
  cases q
  exact br (X0 r (y.step x) _ _ _ h) fun u t z1=>aH z1 fun a b z=>⟨a,(x.own y).trans b,z⟩
theorem bH (XZ:bG d κ σ e f) (hi:σ[i]?=some x:=by rfl) (nd:σ.Nodup:=by decide +kernel) (hk:ve (κ.lookup x)=true:=by rfl)
  (hs:(fun env=>Ua e (some (.Name x p₁)) p₂.line env)=fun env=>pure false:=by rfl):io d κ σ (.Assign [.Name x p₁] e p₂) (bQ i f):=fun {c A env H XJ ρ Xx s} r y fl Yg XK h=>by
 refine cz (mP h) fun p XA h1 h=>?_
 refine iL (jp h) fun XV XW XX=>?_
 subst XV XW XX
 refine wpAny_Assign_Name (br (XZ r y _ _ h1) fun v s' z=>aH z fun XE x q=>?_) (congrFun hs env)
 exact br (iR (y.step x) hi nd (ty hk) q) fun _ s'' z=>bA z fun x2 e2=>⟨XE,(x.own y).trans x2,e2,trivial⟩
theorem xi:io d κ σ (.Continue pos) (fun ρ Xx=>some (.cont,ρ,Xx)):=fun {c A env H XJ ρ Xx s} r y fl Yg XK h=>by
 refine iL (jp h) fun XV XW XX=>?_
 subst XV XW XX
 show QS c.M A (Su pos >>=fun _=>pure Flow.cont) _ _ _
 exact Qr (RI (QB ⟨XJ,(bP.refl y.inv).own y,y.env,trivial⟩))
end
section
variable {c:Cf} {κ:Nm} {σ:List Str} {env:Env} {H X Y:List Addr} {XJ XE XF XM:dF} {ρ Yg:Sl} {Xx XA XB XK:St} {s XZ X0 s':QR}
theorem eg.enter(k:∀ b o,h.get? b=some o→h₁.get? b=some o)(f:∀ a∈X,h.get? a=none):eg h (H++G) h₁ ((X++H)++G):=fun b o e n =>
 ⟨k b o e,fun hm=>by
  rw[QF,Qw] at hm
  rcases hm with hm | hm
  ·have:=f b hm;rw[e] at this;cases this
  ·exact n hm⟩
theorem cH.enter(i:cH c h H XJ Xx)(k:∀ b o,h.get? b=some o→h₁.get? b=some o)(f:∀ a∈X,h.get? a=none)(l:∀ a∈X,(h₁.get? a).isSome=true):cH c h₁ (X++H) XJ Xx:=by
 refine⟨i.ok,⟨i.rep.len,i.rep.nodup,fun a ha hm=>?_,fun j o e=>?_⟩,fun b o e=>k b o (i.stays b o e),fun a ha=>?_,fun a ha=>?_⟩
 ·rcases Qw.mp hm with hm | hm
  ·obtain⟨o,e⟩:=i.rep.live ha;have:=f a hm;rw[e] at this;cases this
  ·exact i.rep.apart a ha hm
 ·refine aH (i.rep.objs j o e) fun p e1 e2=>?_
  refine⟨p,e1,?_⟩
  have:=e2.mono (h':=h₁) (H':=X++H) (new:=[]) (by have:=eg.enter (H:=H) (G:=ow XJ) k f;simpa using this) (k p.2)
  simpa using this
 ·rw[QF,Qw] at ha
  rcases ha with ha | ha
  ·cases q:c.h₀.get? a with
   | none=>rfl
   | some o=>have:=f a ha;rw[i.stays a o q] at this;cases this
  ·exact i.fresh a ha
 ·rcases Qw.mp ha with ha | ha
  ·exact l a ha
  ·refine bM (Qy.mp (i.alive a ha)) fun o e=>?_
   rw[k a o e];rfl
theorem eg.less:eg h ((X++H)++G) h (H++G):=fun b o e n=>⟨e,fun hm=>n (by rw[QF];exact Qo _ hm)⟩
theorem VR.less(r:VR h (X++H) XJ p v):VR h H XJ p v:=by
 have:=r.mono (h':=h) (H':=H) (new:=[]) (by simpa using eg.less)
 simpa using this
theorem VR.more(k:∀ b o,h.get? b=some o→h₁.get? b=some o)(f:∀ a∈X,h.get? a=none)(r:VR h H XJ p v):VR h₁ (X++H) XJ p v:=by
 have:=r.mono (h':=h₁) (H':=X++H) (new:=[]) (by have:=eg.enter (H:=H) (G:=ow XJ) k f;simpa using this)
 simpa using this
theorem cG.more(k:∀ b o,h.get? b=some o→h₁.get? b=some o)(f:∀ a∈X,h.get? a=none)(r:cG h H XJ ps vs):cG h₁ (X++H) XJ ps vs:=by
 have:=r.mono (h':=h₁) (H':=X++H) (new:=[]) (by have:=eg.enter (H:=H) (G:=ow XJ) k f;simpa using this)
 simpa using this
theorem cH.less(i:cH c h (X++H) XJ Xx):cH c h H XJ Xx:=by
 refine⟨i.ok,⟨i.rep.len,i.rep.nodup,fun a ha hm=>i.rep.apart a ha (Qo _ hm),fun j o e=>?_⟩,i.stays,fun a ha=>i.fresh a (by rw[QF];exact Qo _ ha),fun a ha=>i.alive a (Qo _ ha)⟩
 refine aH (i.rep.objs j o e) fun p e1 e2=>?_
 refine⟨p,e1,?_⟩
 have:=e2.mono (h':=h) (H':=H) (new:=[]) (by simpa using eg.less) (fun ob e=>e)
 simpa using this
theorem bP.leave(k:∀ b o,s.heap.get? b=some o→XZ.heap.get? b=some o)(sm:∃ h t,XZ={ s with heap:=h,toks:=t })(f:∀ a∈X,s.heap.get? a=none)(hY:∀ a∈Y,a∈X)(x:bP c (X++H) Y XZ XJ X0 XF XB):bP c H [] s XJ X0 XF XB:=by
 refine aH (x.pre) fun n1 XW g1=>?_
 subst XW
 refine⟨by simp,x.inv.less,⟨n1,rfl,fun a ha=>?_⟩,fun b o e _ na=>x.keep b o (k b o e) (fun hm=>?_) na,?_⟩
 ·cases q:s.heap.get? a with
  | none=>rfl
  | some o=>have:=g1 a ha;rw[k a o q] at this;cases this
 ·have:=f b (hY b hm);rw[e] at this;cases this
 ·refine jW (sm) fun h1 t1 XX=>?_
  subst XX
  refine jW (x.same) fun h2 t2 XX=>?_
  subst XX
  exact⟨h2,t2,rfl⟩
end
noncomputable def GQ(Q:QM→QR→Prop):Result→QR→Prop:=fun r s'=>match r with | .ok (.ret v)=>Q v s' | .ok _=>False | .error e=>No e s'
structure bt (d:Nat) (a:Addr) (F:List PV→St→Option (PV×St)):Prop where
 keep:∀ P,Wh (KF P) (.ref a)=true
 code:∀ {c:Cf} {A:R7} {H:List Addr} {XJ:dF} {Xx:St} {s:QR},Rm A d→cH c s.heap H XJ Xx→∀ (ps:List PV) (vs:List QM),cG s.heap H XJ ps vs→∀ (p:PV) (XK:St),F ps Xx=some (p,XK) →
  U0 c.M A (.call (.ref a) ⟨vs,[]⟩) (GQ (iQ c H s XJ XK p)) s
theorem bt.run(x:bt d a F){Xx:St}(r:Rm A d)(i:cH c s.heap H XJ Xx)(ps:List PV)(vs:List QM)(V:cG s.heap H XJ ps vs)(p:PV)(XK:St)(h:F ps Xx=some (p,XK)):
 QS c.M A (call (.ref a) vs []) (iQ c H s XJ XK p) No s:=WQ (x.code r i ps vs V p XK h)
theorem bt.le(x:bt d a F)(h:d≤d'):bt d' a F:=⟨x.keep,fun r=>x.code (r.le h)⟩
noncomputable def aY:Option (Fl×Sl×St)→Option (PV×St)
 | some (.ret p,_,XK)=>some (p,XK)
 | some (.next,_,XK)=>some (PV.dat .none,XK)
 | some (.cont,_,_)=>none
 | none=>none
theorem Kw{G:Prop}(h:aY o=some (p,s))(k1:∀ ρ,o=some (.ret p,ρ,s)→G)(k2:∀ ρ,o=some (.next,ρ,s)→p=.dat .none→G):G:=by
 rcases o with _ | ⟨_ | _ | q,ρ,s'⟩
 ·exact dK h
 ·exact bA (dg h) fun a b=>k2 ρ (b▸rfl) a.symm
 ·exact dK h
 ·exact bA (dg h) fun a b=>k1 ρ (a▸b▸rfl)
noncomputable def bY(n k:Nat)(f:SF)(ps:List PV)(Xx:St):Option (PV×St) :=
 if ps.length=n then aY (f (ps.map some++RA k none) Xx) else none
noncomputable def tz(n k:Nat)(f:SF)(ps:List PV)(Xx:St):Option (PV×St) :=
 if ps.length=n then aY (f (ps.map some++RA k none) Xx)
 else if ps.length+1=n then aY (f ((ps++[PV.dat (.int 0)]).map some++RA k none) Xx)
 else none
theorem Dy{kindOf:Str→Option RT}(hx:kindOf x=some .local):∀ {binds:List (Str×QM)} {m:Str→Option QM},(binds.map (·.1)).Nodup→((x,v)∈binds∨(m x=some v∧x∉binds.map (·.1)))→bindL kindOf binds m x=some v:=by
 intro a_
 induction a_ with
 | nil =>
  intro m _ h
  rcases h with h | ⟨h,_⟩
  ·cases h
  ·exact h
 | cons x_ r ih =>
  obtain⟨n,u⟩:=x_
  intro m nd h
  simp only[QX,RP] at nd
  unfold bindL
  refine ih nd.2 ?_
  rcases h with h | ⟨h,hn⟩
  ·rcases QJ.mp h with e | h
   ·cases e
    exact .inr ⟨by rw[if_pos hx];simp,nd.1⟩
   ·exact .inl h
  ·refine .inr ⟨?_,fun hm=>hn (SE _ hm)⟩
   have XU:x≠n:=fun q=>hn (by rw[q];exact .head _)
   split
   ·simp[XU,h]
   ·exact h
theorem Dz{kindOf:Str→Option RT}(hx:kindOf x≠some .local):∀ {binds:List (Str×QM)} {m:Str→Option QM},(binds.map (·.1)).Nodup→((x,v)∈binds∨(m x=some v∧x∉binds.map (·.1)))→bindC kindOf binds m x=some v:=by
 intro a_
 induction a_ with
 | nil =>
  intro m _ h
  rcases h with h | ⟨h,_⟩
  ·cases h
  ·exact h
 | cons x_ r ih =>
  obtain⟨n,u⟩:=x_
  intro m nd h
  simp only[QX,RP] at nd
  unfold bindC
  refine ih nd.2 ?_
  rcases h with h | ⟨h,hn⟩
  ·rcases QJ.mp h with e | h
   ·cases e
    exact .inr ⟨by rw[if_neg hx];simp,nd.1⟩
   ·exact .inl h
  ·refine .inr ⟨?_,fun hm=>hn (SE _ hm)⟩
   have XU:x≠n:=fun q=>hn (by rw[q];exact .head _)
   split
   ·exact h
   ·simp[XU,h]
theorem nr:∀ (names:List (Str×RT)) (n:Nat) (acc:List (Str×Addr)) (x:Str),(names.lookup x=some .cell∨∃ a,acc.lookup x=some a)→∃ a,(VE n names acc).lookup x=some a:=by
 intro a_
 induction a_ with
 | nil =>
  intro n acc x h
  rcases h with h | h
  ·exact dK h
  ·exact h
 | cons x_ r ih =>
  obtain⟨m,kd⟩:=x_
  intro n acc x h
  unfold VE
  cases hx:x==m with
  | true =>
   split
   ·exact ih _ _ x (.inr ⟨n,by rw[RU,hx]⟩)
   ·rename_i hk
    rcases h with h | h
    ·rw[RU,hx] at h;cases h;exact absurd rfl hk
    ·exact ih _ _ x (.inr h)
  | false =>
   split
   ·refine ih _ _ x ?_
    rcases h with h | ⟨a,h⟩
    ·rw[RU,hx] at h;exact .inl h
    ·exact .inr ⟨a,by rw[RU,hx];exact h⟩
   ·refine ih _ _ x ?_
    rcases h with h | h
    ·rw[RU,hx] at h;exact .inl h
    ·exact .inr h
theorem xP{l:List (Str×Addr)}{y:Str×Addr}(nd:(l.map (·.1)).Nodup)(h:y∈l):l.lookup y.1=some y.2:=by
 induction l with
 | nil=>cases h
 | cons na t ih =>
  have nd:=RP.mp nd
  rw[RU]
  rcases QJ.mp h with e | h
  ·subst e;rw[beq_self_eq_true]
  ·rw[show(y.1==na.1)=false from beq_eq_false_iff_ne.mpr fun e=>nd.1 (QL.mpr ⟨y,h,e⟩)]
   exact ih nd.2 h
theorem vg:∀ (names:List (Str×RT)) (n:Nat) (acc:List (Str×Addr)),(names.map (·.1)).Nodup→(acc.map (·.1)).Nodup→(∀ x∈acc.map (·.1),x∉names.map (·.1))→((VE n names acc).map (·.1)).Nodup:=by
 intro a_
 induction a_ with
 | nil =>
  intro _ acc _ h _
  exact h
 | cons x_ r ih =>
  obtain⟨m,kd⟩:=x_
  intro n acc h1 h2 h3
  simp only[QX,RP] at h1
  unfold VE
  split
  ·refine ih _ _ h1.2 ?_ ?_
   ·simp only[QX,RP]
    exact⟨fun hm=>h3 m hm (by simp),h2⟩
   ·intro x hx
    rcases QJ.mp hx with rfl | hx
    ·exact h1.1
    ·exact fun hm=>h3 x hx (SE _ hm)
  ·exact ih _ _ h1.2 h2 fun x hx hm=>h3 x hx (SE _ hm)
structure oz (a:Addr) (fd:Vp) (body:List Stmt):Prop where
 look:∀ P,∃ oc od sl,(KF P).lookup a=some ⟨oc,od,.func fd,sl⟩
 body:fd.body=.stmts body
 globals:fd.globals=Q9
 builtins:fd.builtins=Ug
 closure:fd.closure=[]
 co:fd.scope.isCoroutine=false
 gen:fd.scope.isGenerator=false
 kind:fd.scope.kind=.function
 code:∀ P,WR (KF P) fd.code fd.qualname=true
theorem oz.keep{body:List Stmt}(f:oz a fd body)(P:Sp):Wh (KF P) (.ref a)=true:=by
 refine GD (f.look P) fun oc od sl e=>?_
 unfold Wh;dsimp only;rw[e]
theorem yw {d:Nat} {a:Addr} (fa:oz a fd body) (hκ:fd.scope.names=κ) (ndκ:(κ.map (·.1)).Nodup) (nd:(ns++more).Nodup)
   (hkd:∀ x∈ns,κ.lookup x=some .local∨κ.lookup x=some .cell) (B:fm d κ (ns++more) body f)
 {Xx:St} (r:Rm A (d+1)) (i:cH c s.heap H XJ Xx) (V:cG s.heap H XJ ps us) (hl:ps.length=ns.length)
   (hb:W9 s fd ⟨vs,[]⟩ (ns.zip us)) (hf:aY (f (ps.map some++RA more.length none) Xx)=some (p,XK)) :
   U0 c.M A (.call (.ref a) ⟨vs,[]⟩) (GQ (iQ c H s XJ XK p)) s:=by
  refine GD (fa.look c.P) fun oc od sl hlook=>?_
  have hul:us.length=ns.length:=V.length.symm.trans hl
  have hmap:(ns.zip us).map (·.1)=ns:=by rw[Wi];lia
  have ndn:ns.Nodup:=(RK.mp nd).1
  have hgetb:∀ (j:Nat) (x:Str),ns[j]?=some x→∀ v,us[j]?=some v→(x,v)∈ns.zip us:=fun j x e1 v e2=>by
   have:(ns.zip us)[j]?=some (x,v):=by rw[Up];exact⟨e1,e2⟩
   exact QU this
  refine codeAny_call_function r.room (i.KIn _ _ (i.ok.hK▸hlook)) rfl fa.co fa.gen fa.body (WS i.KIn (i.ok.hK▸fa.code c.P)) (hb _ _ _ _ ?_)
  rw[fa.closure]
  refine wpAny_newFunctionEnv_cells fa.kind (fun x hx=>?_) fun env he XZ I=>?_
  ·have hxn:x.1∈ns:=hmap▸QL.mpr ⟨x,hx,rfl⟩
   rw[hκ]
   rcases hkd x.1 hxn with h | h
   ·exact .inl h
   ·refine bM (nr κ (s.heap.objs.size+1) [] x.1 (.inl h)) fun ad e=>?_
    exact .inr ⟨h,by rw[e];rfl⟩
  ·have hnames:env.scope.names=κ:=by rw[he];exact hκ
   have hloc:env.locals=s.heap.objs.size:=by rw[he];rfl
   have hcells:env.cells=VE (s.heap.objs.size+1) κ []:=by rw[he,← hκ];rfl
   have fresh:∀ b,s.heap.objs.size≤b→s.heap.get? b=none:=fun b hb=>by
    cases q:s.heap.get? b with
    | none=>rfl
    | some o=>exact absurd (Q1 q) (TG.mpr hb)
   let X:List Addr:=env.locals::env.cells.map (·.2)
   have hX:∀ b∈X,s.heap.get? b=none:=fun b hb=>by
    rcases QJ.mp hb with rfl | hb
    ·exact fresh _ I.toInCall.fresh
    ·refine aH (QL.mp hb) fun y hy XX=>?_
     subst XX
     exact fresh _ (QH I.toInCall.fresh (Xa (I.above y.1 y.2 hy)))
   have hlook:∀ y∈env.cells,env.cells.lookup y.1=some y.2:=by
    rw[hcells]
    exact fun y hy=>xP (vg κ _ [] ndκ (by simp) (by simp)) hy
   have hlive:∀ b∈X,(XZ.heap.get? b).isSome=true:=fun b hb=>by
    rcases QJ.mp hb with rfl | hb
    ·exact Ns.live I.toInCall.ns
    ·refine aH (QL.mp hb) fun y hy XX=>?_
     subst XX
     refine aH (I.cell y.1 y.2 (hlook y hy)) fun o e _=>?_
     rw[e];rfl
   have keep:=I.toInCall.keep
   have i₁:cH c XZ.heap (X++H) XJ Xx:=i.enter keep hX hlive
   have V₁:cG XZ.heap (X++H) XJ ps us:=V.more keep hX
   have E₁:er κ (ns++more) env XZ.heap (X++H) XJ (ps.map some++RA more.length none):=by
    refine⟨hnames,by rw[he];exact fa.kind,by rw[he];exact fa.globals,by rw[he];exact fa.builtins,Qq _ (.head _),fun y hy _=>⟨Qq _ (.tail _ (QL.mpr ⟨y,hy,rfl⟩)),V1 (I.above y.1 y.2 hy)⟩,
     fun x _ hx=>by rw[hcells];exact nr κ _ [] x (.inl hx),fun x hx y hy q=>name_of_addr I.apart (c:=x.2) hx (by rw[q];exact hy),by simp[hl],_,_,I.toInCall.ns,fun n b _ e=>I.cell n b e,fun j x q ej eq=>?_⟩
    have hj:j<ps.length:=by
     cases Xb j ps.length with
     | inl h=>exact h
     | inr h =>
      rw[QE (by simpa using h)] at eq
      rw[SO] at eq
      split at eq<;>cases eq
    rw[QD (by simpa using hj)] at eq
    rw[QD (by lia)] at ej
    have eq':ps[j]?=some q:=by
     rw[Q7] at eq
     refine aH (Qx.mp eq) fun z h1 h2=>?_
     cases h2;exact h1
    refine aH (V₁.get eq') fun v hv hr=>?_
    refine⟨v,hr,?_⟩
    have hm:=hgetb j x ej v hv
    have hkn:env.kindOf x=κ.lookup x:=by unfold Sf;rw[hnames]
    rcases hkd x (QU ej) with h | h
    ·exact .inl ⟨h,Dy (hkn.trans h) (by rw[hmap];exact ndn) (.inl hm)⟩
    ·refine .inr ⟨.inl h,?_,Dz (by rw[hkn,h];decide) (by rw[hmap];exact ndn) (.inl hm)⟩
     rw[hcells];exact nr κ _ [] x (.inl h)
   refine⟨i₁.lim,codeAny_func ?_⟩
   have body:∀ fl Yg XA,f (ps.map some++RA more.length none) Xx=some (fl,Yg,XA) →
     QS c.M (A.deeper env) (execs body env) (ur c κ (ns++more) env (X++H) XZ XJ fl Yg XA) No XZ:=fun fl Yg XA h=>B r.deeper ⟨E₁,i₁⟩ _ _ _ h
   have hown:∀ b∈own (ns++more) env,b∈X:=fun b hb=>by
    rcases gi.mp hb with rfl | ⟨y,hy,_,rfl⟩
    ·exact .head _
    ·exact .tail _ (QL.mpr ⟨y,hy,rfl⟩)
   refine Kw hf (fun Yg e=>?_) fun Yg e e2=>?_
   ·refine br (body _ _ _ e) fun fl X0 z=>?_
    refine d9 z fun XF S _ q=>?_
    cases fl<;>first | exact q.elim | skip
    exact⟨XF,S.leave keep I.toInCall.same hX hown,q.less⟩
   ·subst e2
    refine br (body _ _ _ e) fun fl X0 z=>?_
    refine d9 z fun XF S _ q=>?_
    cases fl<;>first | exact q.elim | skip
    exact⟨XF,S.leave keep I.toInCall.same hX hown,[],.none⟩
theorem GR (fa:oz a fd body) (hκ:fd.scope.names=κ) (ndκ:(κ.map (·.1)).Nodup) (nd:(ns++more).Nodup)
  (hkd:∀ x∈ns,κ.lookup x=some .local∨κ.lookup x=some .cell) (hb:∀ us:List QM,us.length=ns.length→SH fd ⟨us,[]⟩=pure (ns.zip us)) (B:fm d κ (ns++more) body f):bt (d+1) a (bY ns.length more.length f) :=
 ⟨fa.keep,fun r i ps vs V p XK h=>by
  refine bA (mI h) fun hl h=>?_
  ·exact yw fa hκ ndκ nd hkd B r i V hl (.of_eq (hb vs (V.length.symm.trans hl))) h⟩
theorem vh (fa:oz a fd body) (hκ:fd.scope.names=κ) (ndκ:(κ.map (·.1)).Nodup) (nd:(ns++more).Nodup)
  (hkd:∀ x∈ns,κ.lookup x=some .local∨κ.lookup x=some .cell) (hb:∀ (P:Sp) (s:QR),(KF P).In s.heap→∀ us:List QM,us.length=ns.length→W9 s fd ⟨us,[]⟩ (ns.zip us))
  (hb':∀ (P:Sp) (s:QR),(KF P).In s.heap→∀ us:List QM,us.length+1=ns.length→∃ t,W9 s fd ⟨us,[]⟩ (ns.zip (us++[.int 0 t])))
  (B:fm d κ (ns++more) body f):bt (d+1) a (tz ns.length more.length f) :=
 ⟨fa.keep,fun {c A H XJ Xx s} r i ps vs V p XK h=>by
  unfold tz at h
  by_cases hl:ps.length=ns.length
  ·rw[if_pos hl] at h
   exact yw fa hκ ndκ nd hkd B r i V hl (hb c.P s (i.ok.hK▸i.KIn) vs (V.length.symm.trans hl)) h
  ·rw[if_neg hl] at h
   refine bA (mI h) fun hl h=>?_
   ·refine bM (hb' c.P s (i.ok.hK▸i.KIn) vs (by rw[← V.length];exact hl)) fun t hb'=>?_
    exact yw fa hκ ndκ nd hkd B r i (V.snoc (p:=.dat (.int 0)) (v:=.int 0 t) ⟨[],.int 0 t⟩) (by simpa using hl) hb' h⟩
noncomputable abbrev PF:=List PV→St→Option (PV×St)
noncomputable def aI(F:PF)(g:LF):EF:=fun ρ Xx=>pP (g ρ Xx) F
noncomputable def mS(C:Addr)(o:Option AO):Bool:=(o.bind Ba).any fun x=>x.1==C
noncomputable def aC(C:Addr)(F:PF)(f:EF)(g:LF):EF:=fun ρ Xx=>dh jX (f ρ Xx) fun i XA=>if mS C XA[i]? then pP (g ρ XA) fun ps XB=>F (.ref i::ps) XB else none
noncomputable def Py:PV→Option PV
 | .dat d=>some (.dat d)
 | .ref i=>some (.ref i)
 | .stat _=>none
noncomputable def wm(C:Addr)(j:Nat)(o:Option AO):Option PV:=d7 Ba o fun x=>if x.1==C then d7 (fun o=>o) x.2[j]? Py else none
noncomputable def aE(C:Addr)(j:Nat)(f:EF):EF:=fun ρ Xx=>dh jX (f ρ Xx) fun i XA=>(wm C j XA[i]?).map fun p=>(p,XA)
theorem kZ(h:R8 es env=es.map fun e=>(false,eval e env)):TE pos (R8 es env)=es.map fun e=>(false,eval e env):=by
 rw[h];unfold TE
 rw[Ra]
 rfl
theorem jm (hp:args.all (!·.1)=true)
  (h:QS M A (spliced args) (fun vs s'=>Q ⟨vs,[]⟩ s') E s):QS M A (evalArgs f true args []) Q E s:=by
 cases args with
 | nil =>
  show QS M A (spliced [] >>=_) Q E s
  refine Qr (S8 h (fun vs s' h'=>?_) fun _ _ x=>x)
  refine Qr (QB ?_)
  refine Rd ?_
  exact Qr (QB (Qr (QB (QB h'))))
 | cons x Xz =>
  obtain⟨_ | _,x⟩:=x
  ·exact evalArgs_plain h
  ·cases hp
section
variable {d:Nat} {κ:Nm} {σ:List Str}
theorem oA {Xx XA:St}
  (hp:pF es) (r:Rm A d) (y:Ev c κ σ env H XJ ρ Xx s) (L:fL d κ σ es g) (hg:g ρ Xx=some (ps,XA)) (hk:∀ P,Wh (KF P) f=true)
  (h:∀ vs XZ XE,bP c H [] s XJ XZ XE XA→cG XZ.heap H XE ps vs→QS c.M A (call f (first++vs) []) Q No XZ) :
  QS c.M A (TQ pos f first (TE pos (R8 es env)) []) Q No s:=by
 refine callWith_of (P:=c.K.In) ?_ (keeps_K (y.inv.ok.hK▸hk c.P)) ?_
 ·rw[kZ (hp env)]
  have:∀ l:List Expr,(l.map fun e=>(false,eval e env)).any (·.1)=false:=fun l=>by induction l with | nil=>rfl | cons a t ih=>simp
  rw[this];rfl
 ·refine jm ?_ (br (L r y _ _ hg pos) fun vs XZ z=>aH z fun XE x q=>⟨x.inv.KIn,h vs XZ XE x q⟩)
  rw[kZ (hp env)]
  induction es with | nil=>rfl | cons a t ih=>simp
theorem aR (Fn:bt d₀ a F) (L:fL d κ σ es g) (hx:kw.lookup x=some (some (.ref a)):=by kernel_rfl) (h₀:d₀≤d:=by decide +kernel)
  (hp:gy es=true:=by rfl) (hk:κ.lookup x=some .globalImplicit:=by kernel_rfl) (hd:(x==("__debug__":Str))=false:=by kernel_rfl) :
  bG d κ σ (.Call (.Name x p₀) es [] pos) (aI F g):=fun {c A env H XJ ρ Xx s} r y p XK h=>by
 refine cz (mP h) fun ps XA hg h=>?_
 show QS c.M A (eval (.Name x p₀) env >>=fun f=>TQ pos f [] (TE pos (R8 es env)) []) _ _ _
 refine Qr (br (xh (gT hx) hk hd r y _ _ rfl) fun v XZ z=>aH z fun XE x1 q1=>?_)
 have q1:v=.ref a:=q1
 subst q1
 refine oA (eF hp) r (y.step x1) L hg Fn.keep fun vs X0 XF x2 q2=>?_
 exact br ((Fn.le h₀).run r x2.inv _ _ q2 _ _ h) fun v X3 z=>.next (x1.trans x2) z
theorem DA(hk:Xc es)(h:WT es name=r):lookIn name ⟨cl,od,.dict es ep,sl⟩=some r:=by
 unfold lookIn
 dsimp only
 unfold WT findBy at h
 rw[← Array.find?_toList] at h
 cases q:es.toList.find? (·.key.isStr name) with
 | some e=>rw[q] at h;rw[← h];rfl
 | none =>
  rw[q] at h
  dsimp only
  have:es.toList.any (·.refKey)=false:=by
   rw[List.any_eq_false]
   intro e he
   refine jW (hk e (Array.mem_toList_iff.mp he)) fun n t z=>?_
   simp[Wj,z]
  rw[this,← h];rfl
theorem tA{Xx:St}{i:Nat}(v:cH c h H XJ Xx)(e:Xx[i]?=some (.inst C fs)):
  ∃ p m o,XJ[i]?=some p∧InstAt h p.1 (Uy C p.2) C (some o)∧(∀ name,lookIn name o=some (m name))∧xf gh h H XJ C fs m∧(∃ (es:Array Wf) (ep:Nat),h.get? p.2=some o∧o.data=.dict es ep∧Xc es∧(∀ name,WT es name=m name)∧es.size≤jb fs)∧p.1∉H++ow XJ:=by
 refine cps fun G kG=>?_
 obtain⟨p,e1,a,b,m,g,d5,o2,es2,ep2,z1,z2,z3⟩:=v.rep.objs i _ e
 refine NG (id g) fun o es ep d1 d2 d3 d4=>?_
 have hz:es.size≤jb fs:=by rw[d1] at z1;cases z1;rw[d2] at z2;cases z2;exact z3
 refine kG ?_
 refine⟨p,m,o,e1,⟨a,rfl,rfl,d1⟩,fun name=>?_,d5,⟨es,ep,d1,d2,d3,d4,hz⟩,b⟩
 obtain⟨cl,od,dt,sl⟩:=o
 cases d2
 exact DA d3 (d4 name)
noncomputable def tB(o:Expr)(env:Env):Sem Bool:=do return (← importBound o env).getD true
noncomputable def vi(K:Frag)(C:Addr)(x:Str)(f:Addr):Bool:=WU K C x&&WV K (.ref C) x==some (some (.ref f))&&typeIn K (.ref f)==some (.type "function")
theorem E5 {Xx:St} {s:QR} {i:Nat} (v:cH c s.heap H XJ Xx) (e:Xx[i]?=some (.inst C fs))
  (hm:∀ P,vi (KF P) C x f=true) (hx:x∉gh C) (hq:XJ[i]?=some q) (h:Q (.ref f,[.ref q.1]) s):QS c.M A (Wk (.ref q.1) x pl) Q No s:=by
 refine GE (tA v e) fun p m o e1 I d4 d5 _=>?_
 rw[hq] at e1;cases e1
 refine cps fun G kG=>?_
 have hm:=hm c.P
 rw[← v.ok.hK] at hm
 unfold vi WU at hm
 simp only[Q4,beq_iff_eq] at hm
 obtain⟨⟨⟨h1,h2⟩,h3⟩,h4⟩:=hm
 refine kG ?_
 refine method_fn v.KIn I h1 h2 h3 h4 ?_ h
 show(lookIn x _).map _=_
 rw[d4 x,d5.2.1 x hx];rfl
theorem xj(h:mS C o=true):∃ fs,o=some (.inst C fs):=by
 refine aH (any_some h) fun x e q=>?_
 refine aH (mO e) fun a e1 e2=>?_
 rw[e1,GL e2,beq_iff_eq.mp q]
 exact⟨_,rfl⟩
theorem VR.ref(r:VR h H XJ (.ref i) v):∃ p,XJ[i]?=some p∧v=.ref p.1:=r
noncomputable def Cb:List (Addr×Str×Addr):=[((1002:Addr),Qn "chosen",(903:Addr)),((1002:Addr),Qn "chosen_bool",(896:Addr)),((1002:Addr),Qn "equal",(911:Addr)),((1002:Addr),Qn "equal_chosen",(927:Addr)),((1002:Addr),Qn "equal_numbers",(978:Addr)),((1002:Addr),Qn "equal_others",(972:Addr)),((1002:Addr),Qn "flat",(856:Addr)),((1002:Addr),Qn "joined",(868:Addr)),((1002:Addr),Qn "negated",(875:Addr)),((1002:Addr),Qn "thinned",(861:Addr)),((688:Addr),Qn "and_of",(393:Addr)),((688:Addr),Qn "args",(267:Addr)),((688:Addr),Qn "bool_term",(351:Addr)),((688:Addr),Qn "data",(281:Addr)),((688:Addr),Qn "declare_fun",(211:Addr)),((688:Addr),Qn "eq",(428:Addr)),((688:Addr),Qn "false_term",(344:Addr)),((688:Addr),Qn "fresh_const",(225:Addr)),((688:Addr),Qn "is_number_sort",(197:Addr)),((688:Addr),Qn "is_value",(316:Addr)),((688:Addr),Qn "ite",(442:Addr)),((688:Addr),Qn "make",(302:Addr)),((688:Addr),Qn "not_of",(386:Addr)),((688:Addr),Qn "num",(496:Addr)),((688:Addr),Qn "op",(260:Addr)),((688:Addr),Qn "or_of",(400:Addr)),((688:Addr),Qn "plus",(510:Addr)),((688:Addr),Qn "sort",(274:Addr)),((688:Addr),Qn "times_num",(517:Addr)),((688:Addr),Qn "true_term",(337:Addr)),((688:Addr),Qn "want",(323:Addr)),((688:Addr),Qn "want_all",(330:Addr)),((688:Addr),Qn "want_number",(503:Addr)),((740:Addr),Qn "add_constant",(718:Addr)),((740:Addr),Qn "add_form",(725:Addr)),((740:Addr),Qn "add_part",(711:Addr)),((740:Addr),Qn "sorted_parts",(730:Addr))]
theorem HI:∀ P,Cb.map (fun x=>vi (KF P) x.1 x.2.1 x.2.2)=Cb.map (fun _=>true):=fun P=>by kernel_rfl
theorem Pz(h:Cb.contains (C,x,a)=true)(P:Sp):vi (KF P) C x a=true:=SD.mp (HI P) (C,x,a) (S3.mp h)
theorem aF {apos pos:Pos} {f:EF} (Fn:bt d₀ a F) (X5:bG d κ σ o f) (L:fL d κ σ es g) (hm:Cb.contains (C,x,a)=true:=by kernel_rfl) (hx:x∉gh C:=by decide) (h₀:d₀≤d:=by decide +kernel)
  (hp:gy es=true:=by rfl)
  (he:(fun env=>eval (.Call (.Attribute o x apos) es [] pos) env)=fun env=>(do
   let ov ← eval o env
   Su apos.atName
   let(f,first) ← S5 [ov] (Wk ov x (tB o env))
   TQ pos f first (TE pos (R8 es env)) []):=by rfl) :
  bG d κ σ (.Call (.Attribute o x apos) es [] pos) (aC C F f g):=fun {c A env H XJ ρ Xx s} r y p XK h=>by
 refine cps fun G kG=>?_
 refine cz (mR h) fun i XA h0 h=>?_
 refine bA (mI h) fun hi h=>?_
 refine bM (xj hi) fun fs hi=>?_
 refine kG ?_
 refine cz (mP h) fun ps XB hg h=>?_
 rw[congrFun he env]
 refine Qr (br (X5 r y _ _ h0) fun v XZ z=>aH z fun XE x1 q1=>Qr (RI (Qr (Rd ?_))))
 refine aH (q1.ref) fun q hq XX=>?_
 subst XX
 refine E5 x1.inv hi (Pz hm) hx hq ?_
 refine oA (eF hp) r (y.step x1) L hg Fn.keep fun vs X0 XF x2 q2=>?_
 exact br ((Fn.le h₀).run r x2.inv _ _ (.cons (x2.vr (p:=.ref i) ⟨q,hq,rfl⟩) q2) _ _ h) fun v X3 z=>.next (x1.trans x2) z
noncomputable def vj(K:Frag)(C:Addr)(x:Str):Bool:=WU K C x&&(clsIn K C).any (·.hasDict)&&WV K (.ref C) x==some none
theorem E6 {Xx:St} {s:QR} {i:Nat} (v:cH c s.heap H XJ Xx) (e:wm C j Xx[i]?=some p)
  (hm:∀ P,vj (KF P) C x=true) (hj:(gh C)[j]?=some x) (hq:XJ[i]?=some q) (h:∀ u s',ez s s'→VR s'.heap H XJ p u→Q u s'):QS c.M A (getAttr (.ref q.1) x true) Q No s:=by
 refine aH (mV e) fun⟨C',fs⟩ hi e=>?_
 ·refine bA (mI e) fun hC e'=>?_
  ·cases(beq_iff_eq.mp hC)
   refine GE (tA v hi) fun p' m o e1 I d4 d5 _=>?_
   rw[hq] at e1;cases e1
   refine cps fun G kG=>?_
   have hm:=hm c.P
   rw[← v.ok.hK] at hm
   unfold vj WU at hm
   simp only[Q4,beq_iff_eq] at hm
   obtain⟨⟨⟨h1,h2⟩,h3⟩,h4⟩:=hm
   have hf:=d5.2.2 j x hj
   have fin:∀ p',fs[j]?=some (some p')→(∃ u,m x=some u∧VR s.heap H XJ p' u∧handedIn u=true)→p'=p→QS c.M A (getAttr (.ref q.1) x true) Q No s:=by
    rintro _ _ ⟨u,u1,u2,u3⟩ rfl
    refine get_value v.KIn I h1 (v:=u) ?_ u3 (h _ _ .tok u2)
    unfold findObj
    refine aH (any_some h3) fun cd hcd hdict=>?_
    rw[hcd,Rh,h4,Rh,Rh,Rh]
    dsimp only
    unfold PySem.W.ownOf
    rw[hdict,if_pos rfl]
    dsimp only
    rw[d4 x,u1]
    rfl
   refine kG ?_
   refine aH (qZ (g:=some) e' fun z=>z) fun z hfs e=>?_
   cases z with
   | dat dt =>
    refine cps fun G kG=>?_
    rw[hfs] at hf
    refine aH (hf) fun u u1 u2=>?_
    refine kG ?_
    refine fin _ hfs ⟨u,u1,u2,?_⟩ (Rr e)
    refine bM (u2) fun as u2=>?_
    cases u2<;>rfl
   | ref k =>
    refine cps fun G kG=>?_
    rw[hfs] at hf
    refine aH (hf) fun u u1 u2=>?_
    refine kG ?_
    refine fin _ hfs ⟨u,u1,u2,?_⟩ (Rr e)
    refine aH (u2.ref) fun z _ XX=>?_
    subst XX
    rfl
   | stat=>exact dK e
noncomputable def Cc:List (Addr×Str):=[((1002:Addr),Qn "bank"),((1002:Addr),Qn "no"),((1002:Addr),Qn "yes"),((688:Addr),Qn "false_number"),((688:Addr),Qn "fun_args"),((688:Addr),Qn "fun_names"),((688:Addr),Qn "fun_results"),((688:Addr),Qn "numbers"),((688:Addr),Qn "term_args"),((688:Addr),Qn "term_datas"),((688:Addr),Qn "term_ops"),((688:Addr),Qn "term_sorts"),((688:Addr),Qn "true_number"),((740:Addr),Qn "constant"),((740:Addr),Qn "parts")]
theorem HJ:∀ P,Cc.map (fun x=>vj (KF P) x.1 x.2)=Cc.map (fun _=>true):=fun P=>by kernel_rfl
theorem aT(h:Cc.contains (C,x)=true)(P:Sp):vj (KF P) C x=true:=SD.mp (HJ P) (C,x) (S3.mp h)
theorem aG {f:EF} (X5:bG d κ σ o f) (hm:Cc.contains (C,x)=true:=by kernel_rfl) (hj:(gh C)[j]?=some x:=by rfl)
  (he:(fun env=>eval (.Attribute o x pos) env)=fun env=>(do
   let ov ← eval o env
   Su pos.atName
   let r ← S5 [ov] (getAttr ov x true)
   Vs o ov r
   pure r):=by rfl):bG d κ σ (.Attribute o x pos) (aE C j f):=fun {c A env H XJ ρ Xx s} r y p XK h=>by
 refine cz (mR h) fun i XA h0 h=>?_
 refine cps fun G kG=>?_
 refine aH (Qx.mp h) fun p' hp e=>?_
 cases e
 refine kG ?_
 refine Attribute_any_ (br (X5 r y _ _ h0) fun v XZ z=>aH z fun XE x1 q1=>?_) (congrFun he env)
 refine aH (q1.ref) fun q hq XX=>?_
 subst XX
 exact E6 x1.inv hp (aT hm) hj hq fun u X0 z1 z2=>.next x1 (.pst x1.inv z1 z2)
end
structure jc (W:List Addr) (s s':QR):Prop where
 keep:∀ b o,b∉W→s.heap.get? b=some o→s'.heap.get? b=some o
 same:∃ h t,s'={ s with heap:=h,toks:=t }
structure qb (c:Cf) (H:List Addr) (XS:Expr) (XR:St→Nat→Option (Option PV)) (it:QM) (W:List Addr) (J:Nat→dF→QR→Prop):Prop where
 next:∀ {A:R7} {s:QR} {XJ:dF} {Xx:St} {j:Nat} {r:Option PV},A.handled=none→cH c s.heap H XJ Xx→J j XJ s→XR Xx j=some r →
  QS c.M A (Xd it) (fun o s'=>match r with
   | none=>o=none∧jc W s s'
   | some p=>∃ v,o=some v∧QS c.M A (Tl XS it v) (fun _ s''=>jc W s s''∧(∀ a∈W,(s''.heap.get? a).isSome=true)∧VR s''.heap H XJ p v∧J (j+1) XJ s'') No s') No s
 move:∀ {X:List Addr} {s s':QR} {XJ XM:dF} {Xx XK:St} {j:Nat},(∀ a∈X,a∉W)→cH c s.heap H XJ Xx→bP c H X s XJ s' XM XK→J j XJ s→J j XM s'
 self:∀ {A:R7} {s:QR} {XJ:dF} {j:Nat} {Q:QM→QR→Prop} {E:QM→QR→Prop},J j XJ s→Q it s→QS c.M A (Wl it) Q E s
section
variable {c:Cf} {κ:Nm} {σ:List Str} {env:Env} {H X Y W:List Addr} {XJ XE XF XM:dF} {ρ Yg:Sl} {Xx XA XB XK:St} {s XZ X0 X3 s':QR}
theorem jc.sees(t:jc W s s'):eg s.heap ((W++H)++G) s'.heap (H++G):=fun b o e n =>
 ⟨t.keep b o (fun hm=>n (by rw[QF];exact Qq _ hm)) e,fun hm=>n (by rw[QF];exact Qo _ hm)⟩
theorem jc.refl:jc W s s:=⟨fun _ _ _ e=>e,s.heap,s.toks,rfl⟩
theorem cH.drop(i:cH c s.heap (W++H) XJ Xx)(t:jc W s s')(hW:∀ a∈W,a∉H):cH c s'.heap H XJ Xx:=by
 refine⟨i.ok,⟨i.rep.len,i.rep.nodup,fun a ha hm=>i.rep.apart a ha (Qo _ hm),fun j o e=>?_⟩,fun b o e=>t.keep b o (fun hm=>?_) (i.stays b o e),fun a ha=>i.fresh a (by rw[QF];exact Qo _ ha),fun a ha=>?_⟩
 ·refine aH (i.rep.objs j o e) fun p e1 e2=>?_
  refine⟨p,e1,?_⟩
  have hm:p.2∈ow XJ:=QL.mpr ⟨p,QU e1,rfl⟩
  have:=e2.mono (h':=s'.heap) (H':=H) (new:=[]) (by simpa using t.sees (G:=ow XJ) (H:=H)) (fun ob q=>t.keep _ _ (fun hw=>i.rep.apart _ hm (Qq _ hw)) q)
  simpa using this
 ·have:=i.fresh b (Qq _ (Qq _ hm));rw[e] at this;cases this
 ·refine bM (Qy.mp (i.alive a (Qo _ ha))) fun o e=>?_
  rw[t.keep a o (fun hw=>hW a hw ha) e];rfl
theorem VR.drop(t:jc W s s')(r:VR s.heap (W++H) XJ p v):VR s'.heap H XJ p v:=by
 have:=r.mono (h':=s'.heap) (H':=H) (new:=[]) (by simpa using t.sees (G:=ow XJ) (H:=H))
 simpa using this
theorem bP.leaveW (k:∀ b o,s.heap.get? b=some o→XZ.heap.get? b=some o) (sm:∃ h t,XZ={ s with heap:=h,toks:=t }) (f:∀ a∈W,s.heap.get? a=none) (hY:∀ a∈Y,a∈H) (hW:∀ a∈W,a∉H)
  (x:bP c (W++H) (W++Y) XZ XJ X0 XF XB) (t:jc W X0 X3):bP c H Y s XJ X3 XF XB:=by
 have d:=x.inv.drop t hW
 refine aH (x.pre) fun n1 XW g1=>?_
 subst XW
 refine⟨hY,d,⟨n1,rfl,fun a ha=>?_⟩,fun b o e nY na=>?_,?_⟩
 ·cases q:s.heap.get? a with
  | none=>rfl
  | some o=>have:=g1 a ha;rw[k a o q] at this;cases this
 ·have nW:b∉W:=fun hm=>by have:=f b hm;rw[e] at this;cases this
  exact t.keep b o nW (x.keep b o (k b o e) (fun hm=>(Qw.mp hm).elim nW nY) na)
 ·refine jW (sm) fun h1 t1 XX=>?_
  subst XX
  refine jW (x.same) fun h2 t2 XX=>?_
  subst XX
  refine jW (t.same) fun h3 t3 XX=>?_
  subst XX
  exact⟨h3,t3,rfl⟩
theorem jc.stp(i:cH c s.heap (W++H) XJ Xx)(t:jc W s s')(l:∀ a∈W,(s'.heap.get? a).isSome=true):bP c (W++H) W s XJ s' XJ Xx:=by
 refine jW (t.same) fun h tk XX=>?_
 subst XX
 exact i.touchStp (fun a ha=>Qq _ ha) t.keep l
end
noncomputable abbrev vk:=St→Nat→Option (Option PV)
noncomputable abbrev IF:=Sl→St→Option (vk×Nat×St)
noncomputable def qc(d:Nat)(κ:Nm)(σ:List Str)(XS e:Expr)(f:IF):Prop :=
 ∀ ⦃c:Cf⦄ ⦃A:R7⦄ ⦃env:Env⦄ ⦃H:List Addr⦄ ⦃XJ:dF⦄ ⦃ρ:Sl⦄ ⦃Xx:St⦄ ⦃s:QR⦄,Rm A d→Ev c κ σ env H XJ ρ Xx s →
  ∀ (XR:vk) (n:Nat) (XK:St),f ρ Xx=some (XR,n,XK)→QS c.M A (eval e env) (fun x sx =>
   QS c.M A (Wl x) (fun it X0=>∃ XZ XE W,bP c H [] s XJ XZ XE XK∧ez XZ X0∧(∀ a∈W,XZ.heap.get? a=none∧(X0.heap.get? a).isSome=true) ∧
    ∀ (Y:List Addr) (X3:QR),ez X0 X3→(∀ a∈Y,X0.heap.get? a=none)→∃ J,qb c (W++(Y++H)) XS XR it W J∧J 0 XE X3) No sx) No s
noncomputable abbrev GF:=PV→Sl→Option Sl
noncomputable def Cd(κ:Nm)(σ:List Str)(XS:Expr)(g:GF):Prop :=
 ∀ ⦃c:Cf⦄ ⦃A:R7⦄ ⦃env:Env⦄ ⦃H:List Addr⦄ ⦃XJ:dF⦄ ⦃ρ:Sl⦄ ⦃Xx:St⦄ ⦃s:QR⦄ ⦃p:PV⦄ ⦃v:QM⦄,A.handled=none→Ev c κ σ env H XJ ρ Xx s→VR s.heap H XJ p v →
  ∀ Yg,g p ρ=some Yg→QS c.M A (TH XS env v) (fun _ s'=>bP c H (own σ env) s XJ s' XJ Xx∧er κ σ env s'.heap H XJ Yg) No s
noncomputable abbrev yy(o:Option (Fl×Sl×St))(k:Sl→St→Option (Fl×Sl×St)):Option (Fl×Sl×St):=match o with
 | some (.next,a,s)=>k a s
 | some (.cont,a,s)=>k a s
 | some (.ret p,a,s)=>some (.ret p,a,s)
 | none=>none
theorem NN{G:Prop}(h:yy o k=some r)(k1:∀ fl a s,(∀ p,fl≠.ret p)→o=some (fl,a,s)→k a s=some r→G)(k2:∀ p a s,o=some (.ret p,a,s)→some (.ret p,a,s)=some r→G):G:=by
 rcases o with _ | ⟨_ | _ | _,_,_⟩
 ·exact dK h
 ·exact k1 .next _ _ (fun _ h=>nomatch h) rfl h
 ·exact k1 .cont _ _ (fun _ h=>nomatch h) rfl h
 ·exact k2 _ _ _ rfl h
theorem Dx.nc(n:∀ p,fl≠.ret p)(q:Dx h H XJ fl flow):flow=.next∨flow=.cont:=by
 cases fl with
 | ret p=>exact absurd rfl (n p)
 | _=>cases flow<;>first | exact .inl rfl | exact .inr rfl | exact q.elim
noncomputable abbrev pE{α γ:Type}(o:Option (Option α))(r:Option γ):Option γ:=match o with
 | some (some _)=>none
 | some none=>r
 | none=>none
theorem mE(h:pE o r=some x):o=some none∧r=some x:=by
 rcases o with _ | _ | _
 ·exact dK h
 ·exact⟨rfl,h⟩
 ·exact dK h
noncomputable abbrev pJ{α γ:Type}(o:Option (Option α))(k:α→Option γ):Option γ:=match o with
 | some (some a)=>k a
 | some none=>none
 | none=>none
theorem mJ(h:pJ o k=some x):∃ a,o=some (some a)∧k a=some x:=by
 rcases o with _ | _ | _
 ·exact dK h
 ·exact dK h
 ·exact⟨_,rfl,h⟩
noncomputable def nx(XR:vk)(g:GF)(body:SF):Nat→Nat→SF
 | 0,j,ρ,Xx=>pE (XR Xx j) (some (.next,ρ,Xx))
 | n+1,j,ρ,Xx=>pJ (XR Xx j) fun p=>(g p ρ).bind fun X6=>yy (body X6 Xx) (nx XR g body n (j+1))
noncomputable def dM(src:IF)(g:GF)(body:SF):SF:=fun ρ Xx=>p3 (src ρ Xx) fun XR n XA=>nx XR g body n 0 ρ XA
section
variable {d:Nat} {κ:Nm} {σ:List Str}
noncomputable def FI(c:Cf)(κ:Nm)(σ:List Str)(env:Env)(W H:List Addr)(J:Nat→dF→QR→Prop)(X5:QR)(XI:dF)(out:Option (Fl×Sl×St))(f:Nat→Nat→Sl→St→Option (Fl×Sl×St))(m:Nat)(s:QR):Prop :=
 ∃ j XJ ρ Xx,bP c (W++H) (W++own σ env) X5 XI s XJ Xx∧er κ σ env s.heap (W++H) XJ ρ∧J j XJ s∧f m j ρ Xx=out
theorem HK {H W:List Addr} (r:Rm A d) (I:qb c (W++H) XS XR it W J) (hW:∀ a∈W,a∉H)
  (G:Cd κ σ XS g) (B:fm d κ σ body f) (hown:∀ a∈own σ env,a∈H)
  (fin:∀ s XJ flow,bP c (W++H) (W++own σ env) X5 XI s XJ XK→(fl=.next∧flow=.next∧er κ σ env s.heap (W++H) XJ Yg∨∃ p v,fl=.ret p∧flow=.ret v∧VR s.heap (W++H) XJ p v∧er κ σ env s.heap (W++H) XJ Yg) →
   ∀ XZ,jc W s XZ→R (.ok flow) XZ) :
  ∀ (n j:Nat) (s:QR) (XJ:dF) (ρ:Sl) (Xx:St),bP c (W++H) (W++own σ env) X5 XI s XJ Xx→er κ σ env s.heap (W++H) XJ ρ→J j XJ s→nx XR g f n j ρ Xx=some (fl,Yg,XK) →
   U0 c.M A (.forLoop XS it body [] env) R s:=by
 intro n j s XJ ρ Xx S Er hJ hf
 revert r I hW G B hown fin S Er hJ hf
 revert d κ σ A c XS XR it J g body f env X5 XI XK fl Yg R H W n j s XJ ρ Xx
 refine @p9 _ _ _ _ _ _ _ _ _ _ _ _ _ (bi nI (bi nI (bi nI (bi qy (bi ox nI))))) ?_
 generalize q1 _=d,q2 _=κ,q3 _=σ,q4 _=A,q5 _=c,q6 _=XS,q7 _=XR,q8 _=it,q9 _=J,lI _=g,qx _=body,qe _=f
 refine @mG _ _ _ _ _ _ _ _ _ (bi nI (bi kL nI)) ?_
 generalize q1 _=env,q2 _=X5,q3 _=XI,q4 _=XK,q5 _=fl,q6 _=Yg,q7 _=R,qe _=H
 refine @jV _ _ _ _ _ _ _ _ (bi nI (bi nI (bi nI (bi kL nI)))) ?_
 generalize q1 _=W,q2 _=n,q3 _=j,q4 _=s,q5 _=XJ,q6 _=ρ,qe _=Xx
 intro r I hW G B hown fin S Er hJ hf
 refine codeAny_forLoop_any (FI c κ σ env W H J X5 XI (some (fl,Yg,XK)) (nx XR g f)) ?_ n ⟨j,XJ,ρ,Xx,S,Er,hJ,hf⟩
 clear hf hJ Er S Xx ρ XJ s j n
 rintro n s ⟨j,XJ,ρ,Xx,S,Er,hJ,hf⟩
 have wk:∀ {s' XM XK},bP c (W++H) W s XJ s' XM XK→bP c (W++H) (W++own σ env) s XJ s' XM XK:=fun x=>x.weaken (fun a ha=>Qq _ ha) fun a ha=>(Qw.mp ha).elim (Qq _) fun h=>Qo _ (hown a h)
 have wk2:∀ {s s' XJ XM XK},bP c (W++H) (own σ env) s XJ s' XM XK→bP c (W++H) (W++own σ env) s XJ s' XM XK:=fun x=>x.weaken (fun a ha=>Qo _ ha) fun a ha=>(Qw.mp ha).elim (Qq _) fun h=>Qo _ (hown a h)
 have now:∀ a∈own σ env,a∉W:=fun a ha hw=>hW a hw (hown a ha)
 cases n with
 | zero =>
  refine bA (mE hf) fun hc hf=>?_
  refine iL (jp hf) fun XV XW XX=>?_
  subst XV XW XX
  refine br (I.next r.handled S.inv hJ hc) fun o XZ z=>?_
  refine bA z fun e t=>?_
  subst e
  exact Vb (fin s XJ .next S (.inl ⟨rfl,rfl,Er⟩) XZ t)
 | succ n =>
  refine aH (mJ hf) fun p hc hf=>?_
  refine aH (mO hf) fun X6 hg hf=>?_
  refine br (I.next r.handled S.inv hJ hc) fun o XZ z=>?_
  refine aH z fun v e h=>?_
  subst e
  refine br h fun _ X0 z=>?_
  refine Dm z fun t l hv hJ₂=>?_
  have S₂:bP c (W++H) W s XJ X0 XJ Xx:=t.stp S.inv l
  have E₂:er κ σ env X0.heap (W++H) XJ ρ:=by
   refine Er.move Er.locH (fun y hy hs=>(Er.cellH y hy hs).1) (fun b hb o e=>?_) fun p v z=>S₂.vr z
   have hbo:b∈own σ env:=gi.mpr (hb.imp_right fun z1=>d9 z1 fun z h1 h2 h3=>⟨z,h1,h2,h3⟩)
   exact S₂.keepH S.inv (Qo _ (hown b hbo)) (now b hbo) e
  refine br (G r.handled ⟨E₂,S₂.inv⟩ hv X6 hg) fun _ X3 z=>?_
  refine bA z fun S₃ E₃=>?_
  have J₃:=I.move now S₂.inv S₃ hJ₂
  refine NN hf (fun fl X7 XB hn hb hf=>?_) fun q X7 XB hb hf=>?_
  ·refine br (B r ⟨E₃,S₃.inv⟩ _ _ _ hb) fun flow X4 z=>?_
   refine d9 z fun ads₄ S₄ E₄ q=>?_
   rcases Dx.nc hn q with e | e<;>subst e<;>exact⟨n,Sk _,j+1,ads₄,X7,XB,((S.trans (wk S₂)).trans (wk2 S₃)).trans (wk2 S₄),E₄,I.move now S₃.inv S₄ J₃,hf⟩
  ·refine iL (jp hf) fun XV XW XX=>?_
   subst XV XW XX
   refine br (B r ⟨E₃,S₃.inv⟩ _ _ _ hb) fun flow X4 z=>?_
   refine d9 z fun ads₄ S₄ E₄ q=>?_
   cases flow<;>first | exact q.elim | skip
   exact fin X4 ads₄ _ (((S.trans (wk S₂)).trans (wk2 S₃)).trans (wk2 S₄)) (.inr ⟨_,_,rfl,rfl,q,E₄⟩) X4 .refl
theorem eP (hI:qc d κ σ XS e src) (G:Cd κ σ XS g) (B:fm d κ σ body f)
  (hs:(fun env x=>RL e env x)=fun env x=>pure x:=by rfl):io d κ σ (.For XS e body [] pos) (dM src g f):=fun {c A env H XJ ρ Xx s} r y fl Yg XK h=>by
 refine u5 (m3 h) fun XR n XA hsrc h=>?_
 refine wpAny_For (br (hI r y _ _ _ hsrc) fun x sx hit=>br hit fun it X0 z=>?_) (kY hs env)
 obtain⟨XZ,XE,W,x1,P,hW,hI⟩:=z
 refine aH (hI [] X0 .refl (by simp)) fun J I hJ=>?_
 have y₁:=y.step x1
 have fresh:∀ a∈W,XZ.heap.get? a=none:=fun a ha=>(hW a ha).1
 have hWH:∀ a∈W,a∉H:=fun a ha hm=>by
  refine bM (Qy.mp (y₁.inv.alive a hm)) fun o e=>?_
  rw[fresh a ha] at e;cases e
 have i₂:cH c X0.heap (W++H) XE XA:=y₁.inv.enter P.keep fresh fun a ha=>(hW a ha).2
 have E₂:er κ σ env X0.heap (W++H) XE ρ:=y₁.env.move (Qo _ y₁.env.locH) (fun z hz hs=>Qo _ (y₁.env.cellH z hz hs).1) (fun b _ o e=>P.keep b o e) fun p v z=>z.more P.keep fresh
 have S₀:bP c (W++H) (W++own σ env) X0 XE X0 XE XA:=(bP.refl i₂).weaken (by simp) fun a ha=>(Qw.mp ha).elim (Qq _) fun h=>Qo _ (y.env.own a h)
 refine HK r I hWH G B y.env.own (fun X3 XG flow S₃ hfl X4 t=>?_) n 0 X0 XE ρ XA S₀ E₂ hJ h
 have out:bP c H (own σ env) XZ XE X4 XG XK:=bP.leaveW P.keep P.same fresh y.env.own hWH S₃ t
 have Eo:er κ σ env X3.heap (W++H) XG Yg→er κ σ env X4.heap H XG Yg:=fun E₃ =>
  E₃.move y.env.locH (fun z hz hs=>(y.env.cellH z hz hs).1) (fun b hb o e=>t.keep b o (fun hw=>hWH b hw (y.env.own b (gi.mpr (hb.imp_right fun z1=>d9 z1 fun z h1 h2 h3=>⟨z,h1,h2,h3⟩)))) e) fun p v z=>z.drop t
 rcases hfl with⟨rfl,rfl,E₃⟩ | ⟨p,v,rfl,rfl,q,E₃⟩
 ·exact⟨XG,(x1.own y).trans out,Eo E₃,trivial⟩
 ·exact⟨XG,(x1.own y).trans out,Eo E₃,q.drop t⟩
end
noncomputable def bZ(i:Nat):GF:=fun p ρ=>some (ρ.set i (some p))
noncomputable def jd:List Nat→List PV→Sl→Option Sl
 | [],ps,ρ=>match ps with
  | []=>some ρ
  | _::_=>none
 | i::is,ps,ρ=>match ps with
  | []=>none
  | p::ps=>jd is ps (ρ.set i (some p))
noncomputable def eG(is:List Nat):GF:=fun p ρ=>(NJ p).bind fun ds=>jd is (ds.map .dat) ρ
inductive pG (q:Option RT→Bool) (κ:Nm) (σ:List Str):List Str→List Nat→Prop where
 | nil:pG q κ σ [] []
 | cons {x:Str} {i:Nat} {ns:List Str} {is:List Nat}:σ[i]?=some x→q (κ.lookup x)=true→pG q κ σ ns is→pG q κ σ (x::ns) (i::is)
noncomputable abbrev NO(l:List (Str×Pos)):List Expr:=l.map fun n=>.Name n.1 n.2
noncomputable def gN(q:Option RT→Bool)(κ:Nm)(σ:List Str)(es:List Expr)(is:List Nat):Prop:=∃ l,es=NO l∧pG q κ σ (l.map (·.1)) is
theorem Bf(env:Env)(l:List (Str×Pos)):TJ (NO l) env=l.map fun n=>(false,TH (.Name n.1 n.2) env):=by
 induction l with
 | nil=>rfl
 | cons n l ih=>exact congrArg (_::·) ih
section
variable {κ:Nm} {σ:List Str}
theorem iN(hi:σ[i]?=some x:=by rfl)(nd:σ.Nodup:=by decide +kernel)(hk:ve (κ.lookup x)=true:=by rfl):Cd κ σ (.Name x pos) (bZ i):=fun _ _ _ _ _ _ _ _ _ _ hh y hv Yg h=>by
 obtain rfl:=cE h
 exact SP (iR y hi nd (ty hk) hv)
theorem yz {β:Type} {act:β→QM→Sem Unit} {nm:β→Str} {q:Option RT→Bool} {X:List Addr} (h0:∀ {XJ ρ Xx s},Ev c κ σ env H XJ ρ Xx s→bP c H X s XJ s XJ Xx)
  (hs:∀ {b i XJ ρ Xx s p v},σ[i]?=some (nm b)→q (κ.lookup (nm b))=true→Ev c κ σ env H XJ ρ Xx s→VR s.heap H XJ p v→QS c.M A (act b v) (fun _ s'=>bP c H X s XJ s' XJ Xx∧er κ σ env s'.heap H XJ (ρ.set i (some p))) No s) :
  ∀ {l:List β} {is:List Nat},pG q κ σ (l.map nm) is→∀ {XJ:dF} {ρ Yg:Sl} {Xx:St} {s:QR} {ps:List PV} {vs:List QM},Ev c κ σ env H XJ ρ Xx s→cG s.heap H XJ ps vs→jd is ps ρ=some Yg →
   QS c.M A (UD (l.map act) vs) (fun _ s'=>bP c H X s XJ s' XJ Xx∧er κ σ env s'.heap H XJ Yg) No s:=by
 intro l
 induction l with
 | nil =>
  intro is N XJ ρ Yg Xx s ps vs y V h
  cases N
  cases ps with
  | nil=>cases V;cases h;exact assignInOrder_nil ⟨h0 y,y.env⟩
  | cons _ _=>cases h
 | cons b l ih =>
  intro is N XJ ρ Yg Xx s ps vs y V h
  cases N with
  | cons hi hk N =>
   cases ps with
   | nil=>cases h
   | cons p ps =>
    cases V with
    | cons a V =>
     refine assignInOrder_cons (br (hs hi hk y a) fun _ XZ z=>bA z fun S E₁=>?_)
     exact br (ih N ⟨E₁,S.inv⟩ (S.vrs V) h) fun _ X0 z=>bA z fun S₂ E₂=>⟨S.trans S₂,E₂⟩
theorem pG.len{q:Option RT→Bool}(N:pG q κ σ ns is):ns.length=is.length:=by
 induction N with
 | nil=>rfl
 | cons _ _ _ ih=>exact congrArg (·+1) ih
theorem mx {q:Option RT→Bool} {X:List Addr} (h0:∀ {XJ ρ Xx s},Ev c κ σ env H XJ ρ Xx s→bP c H X s XJ s XJ Xx)
  (hs:∀ {x i XJ ρ Xx s p v},σ[i]?=some x→q (κ.lookup x)=true→Ev c κ σ env H XJ ρ Xx s→VR s.heap H XJ p v→QS c.M A (W7 env x v) (fun _ s'=>bP c H X s XJ s' XJ Xx∧er κ σ env s'.heap H XJ (ρ.set i (some p))) No s)
  (N:gN q κ σ es is) {XJ:dF} {ρ Yg:Sl} {Xx:St} {s:QR} {ps:List PV} {vs:List QM} (y:Ev c κ σ env H XJ ρ Xx s) (V:cG s.heap H XJ ps vs) (h:jd is ps ρ=some Yg) :
  QS c.M A (UD ((TJ es env).map (·.2)) vs) (fun _ s'=>bP c H X s XJ s' XJ Xx∧er κ σ env s'.heap H XJ Yg) No s:=by
 refine aH N fun l e m=>?_
 subst e
 rw[Bf,Ra]
 show QS c.M A (UD (l.map fun n=>TH (.Name n.1 n.2) env) vs) _ _ _
 exact yz (act:=fun n=>TH (.Name n.1 n.2) env) (nm:=fun n:Str×Pos=>n.1) h0 (fun hi hk y a=>SP (hs hi hk y a)) m y V h
theorem gN.len{q:Option RT→Bool}(N:gN q κ σ es is)(env:Env):(TJ es env).length=is.length∧(TJ es env).findIdx? (·.1)=none:=by
 refine aH N fun l e m=>?_
 subst e
 rw[Bf,Qs,← m.len,Qs]
 exact⟨rfl,List.findIdx?_eq_none_iff.mpr fun x hx=>aH (QL.mp hx) fun _ _ e=>e▸rfl⟩
theorem k0{is:List Nat}:∀ {ps:List PV} {ρ Yg:Sl},jd is ps ρ=some Yg→is.length=ps.length:=by
 induction is with
 | nil=>intro ps ρ Yg h;cases ps<;>first | rfl | cases h
 | cons i is ih=>intro ps ρ Yg h;cases ps with | nil=>cases h | cons p ps=>exact congrArg (·+1) (ih h)
theorem dj(r:Rf (Tv h (H++ow XJ)) vs ds as):cG h H XJ (ds.map .dat) vs:=yt (P:=fun vs ds=>cG h H XJ (ds.map .dat) vs) .nil (fun r ih=>.cons ⟨_,r⟩ ih) r
theorem DR.tuple(r:DR h H (.tuple xs) v):∃ a vs as,v=.ref a∧IsTup h a (QW vs)∧Rf (Tv h H) vs xs as:=by
 obtain⟨as,r⟩:=r
 cases r with
 | @tuple a o vs n _ as h1 h2 h3 h4=>exact⟨a,vs.toList,as,rfl,⟨o,UZ _ h1,h2,n,by simpa using h3⟩,h4⟩
theorem DR.list(r:DR h H (.list xs) v):∃ a vs as,v=.ref a∧h.IsList a (QW vs)∧Rf (Tv h H) vs xs as:=by
 obtain⟨as,r⟩:=r
 cases r with
 | @list a o vs n _ as h1 h2 h3 h4=>exact⟨a,vs.toList,as,rfl,⟨o,UZ _ h1,h2,n,by simpa using h3⟩,h4⟩
theorem nn{q:Option RT→Bool}:gN q κ σ [] []:=⟨[],rfl,.nil⟩
theorem nc{q:Option RT→Bool}(N:gN q κ σ es is)(hi:σ[i]?=some x:=by rfl)(hk:q (κ.lookup x)=true:=by rfl):gN q κ σ (.Name x pos::es) (i::is) :=
 aH N fun l e N=>⟨(x,pos)::l,congrArg (_::·) e,.cons hi hk N⟩
theorem iU(N:gN ve κ σ es is)(nd:σ.Nodup:=by decide +kernel):Cd κ σ (.Tuple es k pos) (eG is):=fun {c A env H XJ ρ Xx s p v} hh y hv Yg h=>by
 refine aH (mO h) fun ds e h=>?_
 cases GN e
 ·refine iM (DR.tuple hv) fun a vs as e_3 T R=>?_
  subst e_3
  have V:cG s.heap H XJ (ds.map .dat) vs:=dj R
  have hl:is.length=vs.length:=(k0 h).trans V.length
  refine Uj hh T (by rw[(N.len env).1,hl];simp) (N.len env).2 fun h' he=>?_
  have P:ez s { s with heap:=h' }:=⟨fun b o e=>he b o (Rq (Q1 e)) e,_,_,rfl⟩
  have S:=P.stp y.inv
  refine br (mx (fun y=>(bP.refl y.inv).own y) (fun hi hk y a=>iR y hi nd (ty hk) a) N (y.step S) (S.vrs V) h) fun _ s' z=>bA z fun S₂ E₂=>⟨(S.own y).trans S₂,E₂⟩
theorem iC (ho:s.heap.get? r=some o) (hc:o.cls=.type T)
  (hT:["enumerate","zip","dict_itemiterator","dict_reverseitemiterator","odict_iterator","itertools.zip_longest","itertools.pairwise"].contains T=false) (h:Q () s):QS M A (Tl XS (.ref r) v) Q E s:=by
 cases XS<;>first | exact QB h | skip
 all_goals
  cases v<;>first | exact QB h | skip
  refine Qr (wpAny_load ho ?_)
  rw[hc]
  cases o.data<;>first | exact QB h | skip
  dsimp only
  rw[hT,Bool.false_and,if_neg (by decide)]
  exact QB h
noncomputable def cA(xs:List QC):vk:=fun _ j=>some ((xs[j]?).map .dat)
noncomputable def jA(k:Nat):vk:=fun Xx j=>d7 kM Xx[k]? fun l=>some l[j]?
noncomputable def cF(f:EF):IF:=fun ρ Xx=>pP (f ρ Xx) fun p XA=>pD p (fun xs=>if small xs then some (cA xs,xs.length,XA) else none) (fun xs=>if small xs then some (cA xs,xs.length,XA) else none) fun k=>d7 kM XA[k]? fun l=>some (jA k,l.length,XA)
theorem oB(k:SU I s.heap h'):jc [I] s { s with heap:=h' }:=⟨fun b o n e=>k.extBut b o (by simpa using n) e,_,_,rfl⟩
theorem qB(k:Tr I s.heap h'):jc [I] s { s with heap:=h' }:=⟨fun b o n e=>k b o (by simpa using n) e,_,_,rfl⟩
theorem jc.dr(t:jc W s s')(r:DR s.heap ((W++H)++G) d v):DR s'.heap ((W++H)++G) d v :=
 r.mono fun b o e n=>⟨t.keep b o (fun hm=>n (by rw[QF];exact Qq _ hm)) e,n⟩
theorem DB:qb c ([I]++H) XS (cA xs) (.ref I) [I] (fun j XJ s=>s.heap.IsListIter I ax j∧DR s.heap (([I]++H)++ow XJ) (.list xs) (.ref ax)) where
 next:=fun {A s XJ Xx j r} hh i hJ hc=>by
  refine cps fun G kG=>?_
  refine bA (hJ) fun hi hd=>?_
  refine iM (DR.list hd) fun a vs as e L R=>?_
  cases e
  have V:=dj R
  unfold cA at hc
  refine kG ?_
  cases q:xs[j]? with
  | none =>
   rw[q] at hc;cases hc
   have hv:(QW vs)[j]?=none:=by
    have:=V.length;simp only[Qs] at this
    rw[Rz] at q
    simp;lia
   exact TC hh hi L hv fun h' he=>⟨rfl,qB he⟩
  | some x =>
   rw[q] at hc;cases hc
   refine aH (V.get (i:=j) (p:=.dat x) (by rw[Q7,q];rfl)) fun v hv hr=>?_
   refine Tz hi L (x:=v) (by simpa using hv) fun h' hi' hs'=>⟨v,rfl,?_⟩
   have t:=oB hs'
   refine d9 (id hi') fun o ho hcls hdat=>?_
   refine iC ho hcls (by decide) ⟨t,by simpa using (by rw[ho];rfl),?_,hi',t.dr hd⟩
   exact t.dr (H:=H) hr
 move:=fun {X s s' XJ XM Xx XK j} hX i S hJ=>by
  refine bA (hJ) fun hi hd=>?_
  have y:=S.sees
  refine aH (S.pre) fun n1 XW g1=>?_
  subst XW
  exact⟨hi.at fun o e=>S.keepH i (by simp) (fun hm=>hX _ hm (by simp)) e,hd.mono y⟩
 self:=fun hJ q=>Vg hJ.1 q
theorem Ce:qb c ([I]++H) XS (cA xs) (.ref I) [I] (fun j XJ s=>IsTupIter s.heap I ax j∧DR s.heap (([I]++H)++ow XJ) (.tuple xs) (.ref ax)) where
 next:=fun {A s XJ Xx j r} hh i hJ hc=>by
  refine cps fun G kG=>?_
  refine bA (hJ) fun hi hd=>?_
  refine iM (DR.tuple hd) fun a vs as e L R=>?_
  cases e
  have V:=dj R
  unfold cA at hc
  refine kG ?_
  cases q:xs[j]? with
  | none =>
   rw[q] at hc;cases hc
   have hv:(QW vs)[j]?=none:=by
    have:=V.length;simp only[Qs] at this
    rw[Rz] at q
    simp;lia
   exact next_tuple_end hh hi L hv fun h' he=>⟨rfl,qB he⟩
  | some x =>
   rw[q] at hc;cases hc
   refine aH (V.get (i:=j) (p:=.dat x) (by rw[Q7,q];rfl)) fun v hv hr=>?_
   refine next_tuple_item hi L (x:=v) (by simpa using hv) fun h' hi' hs'=>⟨v,rfl,?_⟩
   have t:=oB hs'
   refine d9 (id hi') fun o ho hcls hdat=>?_
   refine iC ho hcls (by decide) ⟨t,by simpa using (by rw[ho];rfl),?_,hi',t.dr hd⟩
   exact t.dr (H:=H) hr
 move:=fun {X s s' XJ XM Xx XK j} hX i S hJ=>by
  refine bA (hJ) fun hi hd=>?_
  have y:=S.sees
  refine aH (S.pre) fun n1 XW g1=>?_
  subst XW
  refine aH (hi) fun o e q=>?_
  exact⟨⟨o,S.keepH i (by simp) (fun hm=>hX _ hm (by simp)) e,q⟩,hd.mono y⟩
 self:=fun hJ q=>by
  refine d9 (hJ.1) fun o e q1 q2=>?_
  exact wpAny_pyIter_tupleiter (t:=ax) ⟨o,e,q1,q2⟩ q
theorem E8:qb c ([I]++H) XS (jA k) (.ref I) [I] (fun j XJ s=>s.heap.IsListIter I ax j∧XJ[k]?=some (ax,ax)) where
 next:=fun {A s XJ Xx j r} hh i hJ hc=>by
  refine bA (hJ) fun hi hd=>?_
  refine aH (mA hc) fun l hst hc=>?_
  ·refine aH (i.rep.objs k _ hst) fun p e1 e2=>?_
   rw[hd] at e1;cases e1
   refine cps fun G kG=>?_
   obtain⟨_,_,vs,ep,g,V⟩:=e2
   have L:s.heap.IsList ax (QW vs):=⟨_,g,rfl,ep,rfl⟩
   obtain rfl:=cE hc
   refine kG ?_
   cases q:l[j]? with
   | none =>
    have hv:(QW vs)[j]?=none:=by
     have:=V.length
     rw[Rz] at q
     simp;lia
    exact TC hh hi L hv fun h' he=>⟨rfl,qB he⟩
   | some x =>
    refine aH (V.get q) fun v hv hr=>?_
    refine Tz hi L (x:=v) (by simpa using hv) fun h' hi' hs'=>⟨v,rfl,?_⟩
    have t:=oB hs'
    refine d9 (id hi') fun o ho hcls hdat=>?_
    refine iC ho hcls (by decide) ⟨t,by simpa using (by rw[ho];rfl),?_,hi',hd⟩
    have:=hr.mono (h':=h') (H':=[I]++H) (new:=[]) (fun b o e n=>⟨t.keep b o (fun hm=>n (by rw[QF];exact Qq _ hm)) e,by simpa using n⟩)
    simpa using this
 move:=fun {X s s' XJ XM Xx XK j} hX i S hJ=>by
  refine bA (hJ) fun hi hd=>?_
  refine aH (S.pre) fun n1 XW g1=>?_
  subst XW
  refine⟨hi.at fun o e=>S.keepH i (by simp) (fun hm=>hX _ hm (by simp)) e,?_⟩
  rw[QD (Qt.mp hd).1];exact hd
 self:=fun hJ q=>Vg hJ.1 q
end
section
variable {d:Nat} {κ:Nm} {σ:List Str}
theorem ip:ez s { s with heap:=s.heap.push o }:=⟨fun b ob e=>Qz _ e,_,_,rfl⟩
theorem dZ{h:Heap}:h.get? h.objs.size=none:=by
 cases q:h.get? h.objs.size with
 | none=>rfl
 | some o=>exact absurd (Q1 q) (Ti _)
theorem sq{h:Heap}(e:(h.push o).get? a=none):h.get? a=none:=by
 cases q:h.get? a with
 | none=>rfl
 | some ob=>rw[Qz _ q] at e;cases e
theorem xk(k:∀ b o,h.get? b=some o→h₁.get? b=some o)(hI:h.get? I=none)(hY:∀ a∈Y,h.get? a=none):eg h (H++G) h₁ (([I]++(Y++H))++G):=fun b o e n =>
 ⟨k b o e,fun hm=>by
  simp only[Qw,Qu] at hm n
  rcases hm with(hm | hm | hm) | hm
  ·subst hm;rw[hI] at e;cases e
  ·have:=hY b hm;rw[e] at this;cases this
  ·exact n (.inl hm)
  ·exact n (.inr hm)⟩
theorem cW{XS e:Expr}(XZ:bG d κ σ e f):qc d κ σ XS e (cF f):=fun {c A env H XJ ρ Xx s} r y XR n XK h=>by
 refine cz (mP h) fun p XA h1 h=>?_
 refine yc h (fun xs e h=>?_) (fun xs e h=>?_) fun k e h=>?_
 ·subst e
  refine cps fun G kG=>?_
  refine bA (mI h) fun hs h=>?_
  refine iL (jp h) fun XV XW XX=>?_
  subst XV XW XX
  refine kG ?_
  refine br (XZ r y _ _ h1) fun v s' z=>aH z fun XE x1 q1=>?_
  refine cps fun G kG=>?_
  refine iM (DR.list q1) fun a vs as e_3 L R=>?_
  subst e_3
  refine kG ?_
  refine Uz L ⟨s',XE,[s'.heap.objs.size],x1,ip,fun b hb=>?_,fun Y X3 P hY=>⟨_,DB,⟨_,P.keep _ _ (QI _ rfl),rfl,rfl⟩,?_⟩⟩
  ·refine cps fun G kG=>?_
   have hb:b=s'.heap.objs.size:=by simpa using hb
   subst hb
   refine kG ?_
   exact⟨dZ,by rw[QI _ rfl];rfl⟩
  ·exact DR.mono (xk (fun b ob e=>P.keep _ _ (Qz _ e)) dZ (fun a ha=>sq (hY a ha))) q1
 ·subst e
  refine cps fun G kG=>?_
  refine bA (mI h) fun hs h=>?_
  refine iL (jp h) fun XV XW XX=>?_
  subst XV XW XX
  refine kG ?_
  refine br (XZ r y _ _ h1) fun v s' z=>aH z fun XE x1 q1=>?_
  refine cps fun G kG=>?_
  refine iM (DR.tuple q1) fun a vs as e_3 L R=>?_
  subst e_3
  refine kG ?_
  refine iter_tuple L ⟨s',XE,[s'.heap.objs.size],x1,ip,fun b hb=>?_,fun Y X3 P hY=>⟨_,Ce,⟨_,P.keep _ _ (QI _ rfl),rfl,rfl⟩,?_⟩⟩
  ·refine cps fun G kG=>?_
   have hb:b=s'.heap.objs.size:=by simpa using hb
   subst hb
   refine kG ?_
   exact⟨dZ,by rw[QI _ rfl];rfl⟩
  ·exact DR.mono (xk (fun b ob e=>P.keep _ _ (Qz _ e)) dZ (fun a ha=>sq (hY a ha))) q1
 ·subst e
  refine aH (mA h) fun l hk h=>?_
  refine iL (jp h) fun XV XW XX=>?_
  subst XV XW XX
  refine br (XZ r y _ _ h1) fun v s' z=>aH z fun XE x1 q1=>?_
  refine aH (q1.ref) fun p hp XX=>?_
  subst XX
  refine aH (x1.inv.rep.objs k _ hk) fun p' e1 e2=>?_
  rw[hp] at e1;cases e1
  refine cps fun G kG=>?_
  obtain⟨ax,ay⟩:=p
  obtain⟨he,hl,vs,ep,g,V⟩:=e2
  cases he
  refine kG ?_
  refine Uz (l:=ax) (items:=QW vs) ⟨_,g,rfl,ep,rfl⟩ ⟨s',XE,[s'.heap.objs.size],x1,ip,fun b hb=>?_,fun Y X3 P hY=>⟨_,E8,⟨_,P.keep _ _ (QI _ rfl),rfl,rfl⟩,hp⟩⟩
  have hb:b=s'.heap.objs.size:=by simpa using hb
  subst hb
  exact⟨dZ,by rw[QI _ rfl];rfl⟩
end
section
variable {c:Cf} {κ:Nm} {σ:List Str} {env:Env} {H:List Addr} {XJ:dF} {ρ:Sl} {Xx:St} {s s':QR}
theorem OR.keep(r:OR c h H XJ p o)(k:∀ b ob,b∉H++ow XJ→h.get? b=some ob→h'.get? b=some ob)(e:∀ ob,h.get? p.2=some ob→h'.get? p.2=some ob):OR c h' H XJ p o:=by
 have:=r.mono (h':=h') (H':=H) (new:=[]) (fun b ob q n=>⟨k b ob n q,by simpa using n⟩) e
 simpa using this
theorem cH.upd(i:cH c s.heap H XJ Xx)(hp:XJ[k]?=some p)(hs:Tr p.2 s.heap h')(r:OR c h' H XJ p o'):cH c h' H XJ (Xx.set k o'):=by
 have hm:p.2∈ow XJ:=QL.mpr ⟨p,QU hp,rfl⟩
 refine⟨i.ok,⟨by rw[SY];exact i.rep.len,i.rep.nodup,i.rep.apart,fun j o e=>?_⟩,fun b o e=>hs b o (fun q=>?_) (i.stays b o e),i.fresh,fun a ha=>?_⟩
 ·by_cases hj:j=k
  ·subst hj
   refine⟨p,hp,?_⟩
   have hl:j<Xx.length:=by
    have:=(Qt.mp e).1
    simpa using this
   rw[RW hl] at e
   cases e;exact r
  ·rw[SG (Tc hj)] at e
   refine aH (i.rep.objs j o e) fun q e1 e2=>?_
   refine⟨q,e1,e2.keep (fun b ob n z=>hs b ob (fun w=>n (Qo _ (w▸hm))) z) fun ob z=>hs _ ob (fun w=>?_) z⟩
   have n:=i.rep.nodup
   have h1:(ow XJ)[j]?=some q.2:=by unfold ow;rw[Q7,e1];rfl
   have h2:(ow XJ)[k]?=some p.2:=by unfold ow;rw[Q7,hp];rfl
   rw[w] at h1
   obtain⟨l1,e1'⟩:=Qt.mp h1
   obtain⟨l2,e2'⟩:=Qt.mp h2
   exact hj ((Sj n).mp (e1'.trans e2'.symm))
 ·subst q
  have:=i.fresh p.2 (Qo _ hm);rw[e] at this;cases this
 ·refine bM (Qy.mp (i.alive a ha)) fun o e=>?_
  rw[hs a o (fun w=>i.rep.apart _ hm (w▸ha)) e];rfl
theorem cH.updStp(i:cH c s.heap H XJ Xx)(hp:XJ[k]?=some p)(hs:Tr p.2 s.heap h')(r:OR c h' H XJ p o'):bP c H [] s XJ { s with heap:=h',toks:=t } XJ (Xx.set k o') :=
 ⟨by simp,i.upd hp hs r,⟨[],by simp,by simp[ow]⟩,fun b o e _ n=>hs b o (fun q=>n (q▸QL.mpr ⟨p,QU hp,rfl⟩)) e,_,_,rfl⟩
theorem eg.upd{k:Nat}(hp:XJ[k]?=some p)(hs:Tr p.2 h h'):eg h (H++ow XJ) h' (H++ow (XJ++[])):=fun b o e n =>
 ⟨hs b o (fun q=>n (Qo _ (q▸QL.mpr ⟨p,QU hp,rfl⟩))) e,by simpa using n⟩
theorem VR.upd{k:Nat}(hp:XJ[k]?=some p)(hs:Tr p.2 h h')(r:VR h H XJ q v):VR h' H XJ q v:=by
 have:=r.mono (eg.upd (H:=H) hp hs);simpa using this
theorem cG.upd{k:Nat}(hp:XJ[k]?=some p)(hs:Tr p.2 h h')(r:cG h H XJ q v):cG h' H XJ q v:=by
 have:=r.mono (eg.upd (H:=H) hp hs);simpa using this
theorem cH.newStp(i:cH c s.heap H XJ Xx)(hk:∀ b o,s.heap.get? b=some o→h'.get? b=some o)(hf:s.heap.get? p.2=none)(r:OR c h' H (XJ++[p]) p o'):
  bP c H [] s XJ { s with heap:=h',toks:=t } (XJ++[p]) (Xx++[o']):=by
 revert c H XJ Xx s p h' o' t
 refine @tX _ _ _ _ _ _ _ _ _ _ (bi ox (bi nI (bi nI (bi nI (bi kL nI))))) ?_
 generalize q1 _=c,q2 _=H,q3 _=XJ,q4 _=Xx,q5 _=s,q6 _=p,q7 _=h',q8 _=o',qe _=t
 intro i hk hf r
 have hH:p.2∉H:=fun hm=>by obtain⟨o,e⟩:=Qy.mp (i.alive _ hm);rw[hf] at e;cases e
 have hO:p.2∉ow XJ:=fun hm=>by obtain⟨o,e⟩:=i.rep.live hm;rw[hf] at e;cases e
 have how:ow (XJ++[p])=ow XJ++[p.2]:=by rw[fC];rfl
 refine⟨by simp,⟨i.ok,⟨by simp[i.rep.len],?_,?_,fun j o e=>?_⟩,fun b o e=>hk b o (i.stays b o e),fun a ha=>?_,fun a ha=>?_⟩,⟨[p],rfl,fun a ha=>?_⟩,fun b o e _ _=>hk b o e,_,_,rfl⟩
 ·rw[how,RK]
  refine⟨i.rep.nodup,by simp,fun a ha b hb=>?_⟩
  have:b=p.2:=by simpa using hb
  subst this;exact fun q=>hO (q▸ha)
 ·intro a ha
  rw[how] at ha
  rcases Qw.mp ha with h | h
  ·exact i.rep.apart a h
  ·have:a=p.2:=by simpa using h
   subst this;exact hH
 ·by_cases hj:j<Xx.length
  ·rw[QD hj] at e
   refine aH (i.rep.objs j o e) fun q e1 e2=>?_
   refine⟨q,by rw[QD (by rw[i.rep.len];exact hj)];exact e1,e2.mono (fun b ob z n=>⟨hk b ob z,?_⟩) (hk _)⟩
   rw[how,← QF]
   intro hm
   rcases Qw.mp hm with h | h
   ·exact n h
   ·have:b=p.2:=by simpa using h
    subst this;rw[hf] at z;cases z
  ·have hl:=(Qt.mp e).1
   have hj':j=Xx.length:=by simp at hl;lia
   subst hj'
   rw[QE (QZ _)] at e
   simp at e;subst e
   exact⟨p,by rw[QE (by rw[i.rep.len];exact QZ _),i.rep.len];simp,r⟩
 ·rw[how,← QF] at ha
  rcases Qw.mp ha with h | h
  ·exact i.fresh a h
  ·have:a=p.2:=by simpa using h
   subst this
   cases q:c.h₀.get? p.2 with
   | none=>rfl
   | some o=>have:=i.stays _ o q;rw[hf] at this;cases this
 ·refine bM (Qy.mp (i.alive a ha)) fun o e=>?_
  rw[hk a o e];rfl
 ·have:a=p.2:=by simpa [ow] using ha
  subst this;exact hf
theorem eg.new(hk:∀ b o,h.get? b=some o→h'.get? b=some o)(hf:h.get? p.2=none):eg h (H++ow XJ) h' (H++ow (XJ++[p])):=fun b o e n =>
 ⟨hk b o e,by
  rw[fC,← QF]
  intro hm
  rcases Qw.mp hm with h | h
  ·exact n h
  ·have:b=p.2:=by simpa [ow] using h
   subst this;rw[hf] at e;cases e⟩
end
noncomputable def fg(f:LF):EF:=fun ρ Xx=>pP (f ρ Xx) fun ps XA=>if small ps then some (.ref XA.length,XA++[.list ps]) else none
noncomputable def oC:EF:=fun _ Xx=>some (.ref Xx.length,Xx++[.idict []])
noncomputable def Bg:EF:=fun _ Xx=>some (.ref Xx.length,Xx++[.tdict []])
noncomputable def la(o:Option AO):Option String:=o.bind fun a=>match a with
 | .list _=>some "list"
 | .idict _=>some "dict"
 | .tdict _=>some "dict"
 | .inst _ _=>none
noncomputable def d8(T:String)(F:Nat→List PV→St→Option (PV×St))(f:EF)(g:LF):EF:=fun ρ Xx=>dh jX (f ρ Xx) fun i XA=>if la XA[i]?=some T then pP (g ρ XA) (F i) else none
noncomputable def wo(id:String)(F:Nat→List PV→St→Option (PV×St)):Prop :=
 ∀ ⦃c:Cf⦄ ⦃A:R7⦄ ⦃H:List Addr⦄ ⦃XJ:dF⦄ ⦃Xx:St⦄ ⦃s:QR⦄ ⦃i:Nat⦄ ⦃a:Addr×Addr⦄,Rm A 0→cH c s.heap H XJ Xx→XJ[i]?=some a→∀ (ps:List PV) (vs:List QM),cG s.heap H XJ ps vs→∀ (p:PV) (XK:St),F i ps Xx=some (p,XK) →
  QS c.M A (call (.builtin id) (.ref a.1::vs) []) (iQ c H s XJ XK p) No s
noncomputable def cK(i:Nat)(ps:List PV)(Xx:St):Option (PV×St):=(ot ps).bind fun p=>d7 kM Xx[i]? fun l=>if l.length<2 ^ 20 then some (.dat .none,Xx.set i (.list (l++[p]))) else none
section
variable {d:Nat} {κ:Nm} {σ:List Str}
theorem e7(XZ:fL d κ σ es f):bG d κ σ (.List es pos) (fg f):=fun {c A env H XJ ρ Xx s} r y p XK h=>by
 refine cz (mP h) fun ps XA h1 h=>?_
 refine bA (mI h) fun hs h=>?_
 refine bA (dg h) fun XV XW=>?_
 subst XV XW
 refine wpAny_List (br (XZ r y _ _ h1 pos) fun vs s' z=>aH z fun XE x1 r1=>?_)
 have hs:ps.length≤2 ^ 20:=of_decide_eq_true hs
 have hl:=r1.length
 have pk:∀ b o,s'.heap.get? b=some o→(s'.heap.push { cls:=.type "list",data:=.seq vs.toArray }).get? b=some o:=fun b o e=>Qz _ e
 have S:=x1.inv.newStp (t:=s'.toks) (p:=(s'.heap.objs.size,s'.heap.objs.size)) (o':=.list ps) pk dZ ⟨rfl,hs,vs,_,QI _ rfl,r1.mono (eg.new pk dZ)⟩
 refine⟨by rw[← hl];exact QH hs (by decide),_,x1.trans S,(s'.heap.objs.size,s'.heap.objs.size),?_,rfl⟩
 rw[← x1.inv.rep.len,QE (QZ _)];simp
theorem Oq:∀ P,((KF P).lookup 98).isSome=true:=fun P=>by kernel_rfl
theorem uv{Xx:St}(i:cH c h H XJ Xx):(h.objs.size==Uf)=false:=by
 refine bM (Qy.mp (Oq c.P)) fun o e=>?_
 have lt:(98:Nat)<h.objs.size:=Q1 (i.KIn _ _ (i.ok.hK▸e))
 exact beq_eq_false_iff_ne.mpr fun q=>by
  have q:h.objs.size=(1:Nat):=q
  lia
theorem DC:Obj.ExactDict { cls:=.type "dict",data:=.dict #[] }:=⟨rfl,rfl,rfl⟩
theorem nR:bG d κ σ (.Dict [] [] pos) oC:=fun {c A env H XJ ρ Xx s} r y p XK h=>by
 obtain⟨rfl,rfl⟩:=dg h
 have pk:∀ b o,s.heap.get? b=some o→(s.heap.push { cls:=.type "dict",data:=.dict #[] }).get? b=some o:=fun b o e=>Qz _ e
 have S:=y.inv.newStp (t:=s.toks) (p:=(s.heap.objs.size,s.heap.objs.size)) (o':=.idict []) pk dZ ⟨rfl,by decide,uv y.inv,[],WD s.heap,rfl,.nil⟩
 refine Wm ⟨_,S,(s.heap.objs.size,s.heap.objs.size),?_,rfl⟩
 rw[← y.inv.rep.len,QE (QZ _)];simp
theorem AJ:bG d κ σ (.Dict [] [] pos) Bg:=fun {c A env H XJ ρ Xx s} r y p XK h=>by
 obtain⟨rfl,rfl⟩:=dg h
 have pk:∀ b o,s.heap.get? b=some o→(s.heap.push { cls:=.type "dict",data:=.dict #[] }).get? b=some o:=fun b o e=>Qz _ e
 have S:=y.inv.newStp (t:=s.toks) (p:=(s.heap.objs.size,s.heap.objs.size)) (o':=.tdict []) pk dZ
  ⟨rfl,by decide,uv y.inv,[],_,#[],0,QI _ rfl,DC,rfl,rfl,by simp,by simp,rfl,.nil⟩
 refine Wm ⟨_,S,(s.heap.objs.size,s.heap.objs.size),?_,rfl⟩
 rw[← y.inv.rep.len,QE (QZ _)];simp
theorem HL{s:QR}{Xx:St}{i:Nat}(v:cH c s.heap H XJ Xx)(h:la Xx[i]?=some T)(hp:XJ[i]?=some p):
  s.TypeIs (.ref p.1) T∧∀ a,QV p.1=.ref a→∃ o,s.heap.get? a=some o∧o.dict=none:=by
 revert c H XJ T p s Xx i
 refine @mG _ _ _ _ _ _ _ _ _ (bi ox (bi nI (bi nI (bi nI (bi nI (bi kL nI)))))) ?_
 generalize q1 _=c,q2 _=H,q3 _=XJ,q4 _=T,q5 _=p,q6 _=s,q7 _=Xx,qe _=i
 intro v h hp
 refine aH (mO h) fun o e h=>?_
 cases o with
 | list l =>
  obtain rfl:=cE h
  obtain⟨q,e1,hq,_,vs,ep,g,_⟩:=v.rep.objs i _ e
  rw[hp] at e1;cases e1
  rw[hq]
  exact⟨⟨_,g,rfl⟩,fun a ha=>by cases ha;exact⟨_,g,rfl⟩⟩
 | idict l =>
  obtain rfl:=cE h
  obtain⟨q,e1,hq,_,_,kvs,⟨o,es,ep,g,x,_⟩,_⟩:=v.rep.objs i _ e
  rw[hp] at e1;cases e1
  rw[hq]
  exact⟨⟨_,g,x.1⟩,fun a ha=>by cases ha;exact⟨_,g,x.2.1⟩⟩
 | tdict l =>
  obtain rfl:=cE h
  obtain⟨q,e1,hq,_,_,xs,o,es,ep,g,x,_⟩:=v.rep.objs i _ e
  rw[hp] at e1;cases e1
  rw[hq]
  exact⟨⟨_,g,x.1⟩,fun a ha=>by cases ha;exact⟨_,g,x.2.1⟩⟩
 | inst=>exact dK h
theorem sr(hp:R8 es env=es.map fun e=>(false,eval e env)):(TE pos (R8 es env)).any (·.1)=false:=by
 rw[kZ hp]
 induction es with | nil=>rfl | cons a t ih=>simp
theorem sw(hp:R8 es env=es.map fun e=>(false,eval e env)):(TE pos (R8 es env)).all (!·.1)=true:=by
 rw[kZ hp]
 induction es with | nil=>rfl | cons a t ih=>simp
theorem dW {T id:String} {F:Nat→List PV→St→Option (PV×St)} {apos pos:Pos} {es:List Expr} (B:wo id F) (pa:PlainAttrs T) (slot:Slot T x id) (hty:typeOf (.builtin id)=pure (.type "method_descriptor"))
  (X5:bG d κ σ o f) (L:fL d κ σ es g) (hp:gy es=true:=by rfl)
  (he:(fun env=>eval (.Call (.Attribute o x apos) es [] pos) env)=fun env=>(do
   let ov ← eval o env
   Su apos.atName
   let(f,first) ← S5 [ov] (Wk ov x (tB o env))
   TQ pos f first (TE pos (R8 es env)) []):=by rfl) :
  bG d κ σ (.Call (.Attribute o x apos) es [] pos) (d8 T F f g):=fun {c A env H XJ ρ Xx s} r y p XK h=>by
 refine cz (mR h) fun i XA h0 h=>?_
 refine bA (mI h) fun hi h=>?_
 refine cz (mP h) fun ps XB hg h=>?_
 rw[congrFun he env]
 refine Qr (br (X5 r y _ _ h0) fun v XZ z=>aH z fun XE x1 q1=>Qr (RI (Qr (Rd ?_))))
 refine aH (q1.ref) fun q hq XX=>?_
 subst XX
 refine bA (HL x1.inv hi hq) fun t1 t2=>?_
 refine getMethod_builtin t1 pa slot hty t2 ?_
 refine Wn (sr (eF hp env)) (jm (sw (eF hp env)) (br (L r (y.step x1) _ _ hg pos) fun vs X0 z=>aH z fun XF x2 q2=>?_))
 have hq2:XF[i]?=some q:=by
  refine aH (x2.pre) fun n e _=>?_
  rw[e,QD (Qt.mp hq).1];exact hq
 exact br (B (r.le (Ry _)) x2.inv hq2 _ _ q2 _ _ h) fun v X3 z=>.next (x1.trans x2) z
theorem dy:wo "list.append" cK:=fun {c A H XJ Xx s i a} r v ha ps vs V p XK h=>by
 refine cps fun G5 kG5=>?_
 refine aH (mO h) fun p hp h1=>?_
 refine aH (mA h1) fun l e h2=>?_
 cases qY hp
 ·refine bA (mI h2) fun hl h=>?_
  refine bA (dg h) fun XV XW=>?_
  subst XV XW
  obtain⟨q,e1,hq,hl',us,ep,g,U⟩:=v.rep.objs i _ e
  refine kG5 ?_
  rw[ha] at e1;cases e1
  refine V.e1 fun _ hv e_=>?_
  subst e_
  rw[hq]
  refine UP (items:=QW us) ⟨ep,g⟩ (fun h' hl₂ hs=>?_) (by rw[Ru,← U.length];exact QH hl' (by decide))
  refine bM (hl₂) fun ep' g'=>?_
  have S:=v.updStp (t:=s.toks) ha hs.extBut (o':=.list (l++[p])) ⟨hq,by simp;exact SV (by assumption),us++[_],ep',by simpa using g',(U.upd ha hs.extBut).snoc (hv.upd ha hs.extBut)⟩
  exact⟨_,S,[],.none⟩
end
noncomputable def gu:List (Int×PV)→Int→Option PV
 | [],_=>none
 | (a,p)::r,k=>if a=k then some p else gu r k
theorem Kx:gu ((a,p)::r) k=if a=k then some p else gu r k:=rfl
noncomputable def oE:List (Int×PV)→Int→PV→List (Int×PV)
 | [],k,p=>[(k,p)]
 | (a,q)::r,k,p=>if a=k then(a,p)::r else(a,q)::oE r k p
theorem DD:oE ((a,q)::r) k p=if a=k then(a,p)::r else(a,q)::oE r k p:=rfl
noncomputable def qd:List (Int×PV)→Int→List (Int×PV)
 | [],_=>[]
 | (a,q)::r,k=>if a=k then r else(a,q)::qd r k
theorem DE:qd ((a,q)::r) k=if a=k then r else(a,q)::qd r k:=rfl
inductive iy (h:Heap) (H:List Addr) (XJ:dF):List (Int×PV)→List (Int×QM)→Prop where
 | nil:iy h H XJ [] []
 | cons {k:Int} {p:PV} {v:QM} {l:List (Int×PV)} {m:List (Int×QM)}:VR h H XJ p v→iy h H XJ l m→iy h H XJ ((k,p)::l) ((k,v)::m)
section
variable {h h':Heap} {H:List Addr} {XJ:dF}
theorem iy.of{l:List (Int×PV)}:∀ {m:List (Int×QM)},m.map (·.1)=l.map (·.1)→cG h H XJ (l.map (·.2)) (m.map (·.2))→iy h H XJ l m:=by
 induction l with
 | nil=>intro m e _;cases T7.mp e;exact .nil
 | cons ap l ih =>
  intro m e V
  cases m with
  | nil=>cases e
  | cons bv m =>
   obtain⟨b,v⟩:=bv
   cases UQ e
   cases V with
   | cons x V=>exact .cons x (ih (UR e) V)
theorem iy.keys(r:iy h H XJ l m):m.map (·.1)=l.map (·.1):=by
 induction r with
 | nil=>rfl
 | cons _ _ ih=>simp[ih]
theorem iy.vals(r:iy h H XJ l m):cG h H XJ (l.map (·.2)) (m.map (·.2)):=by
 induction r with
 | nil=>exact .nil
 | cons a _ ih=>exact .cons a ih
theorem iy.imp(k:∀ p v,VR h H XJ p v→VR h' H XJ p v)(r:iy h H XJ l m):iy h' H XJ l m:=by
 induction r with
 | nil=>exact .nil
 | cons a _ ih=>exact .cons (k _ _ a) ih
theorem iy.get(r:iy h H XJ l m)(k:Int):match gu l k with
  | some p=>∃ v,V3 m k=some v∧VR h H XJ p v
  | none=>V3 m k=none:=by
 induction r with
 | nil=>rfl
 | @cons a p v l m x _ ih =>
  rw[Kx];unfold V3
  by_cases ha:a=k
  ·subst ha
   rw[if_pos rfl]
   exact⟨v,by simp,x⟩
  ·rw[if_neg ha]
   have e:((a,v)::m).find? (fun kv=>decide (kv.1=k))=m.find? (fun kv=>decide (kv.1=k)):=by rw[WE];simp[ha]
   rw[e];exact ih
theorem AK(a:Int)(v u:QM)(m:List (Int×QM))(k:Int)(nd:((a,v)::m).map (·.1) |>.Nodup):WW ((a,v)::m) k u=if a=k then(a,u)::m else(a,v)::WW m k u:=by
 simp only[QX,RP] at nd
 unfold WW
 by_cases ha:a=k
 ·subst ha
  rw[if_pos (by simp),if_pos rfl,QX,if_pos rfl,map_store_of_not_mem m a u nd.1]
 ·rw[if_neg ha]
  by_cases hm:m.any (fun kv=>decide (kv.1=k))=true
  ·rw[if_pos (by rw[UE,hm,Bool.or_true]),if_pos hm,QX,if_neg ha]
  ·rw[if_neg (by rw[UE];simp[ha] at hm ⊢;exact hm),if_neg hm];rfl
theorem iy.set(r:iy h H XJ l m)(x:VR h H XJ p v)(nd:(m.map (·.1)).Nodup):iy h H XJ (oE l k p) (WW m k v):=by
 induction r with
 | nil=>exact .cons x .nil
 | @cons a q u l m z r ih =>
  rw[AK _ _ _ _ _ nd]
  rw[DD]
  split
  ·exact .cons x r
  ·exact .cons z (ih (RP.mp nd).2)
theorem iy.del(r:iy h H XJ l m)(nd:(m.map (·.1)).Nodup):iy h H XJ (qd l k) (V4 m k):=by
 induction r with
 | nil=>exact .nil
 | @cons a q u l m z r ih =>
  have nd':=RP.mp nd
  rw[DE]
  by_cases ha:a=k
  ·subst ha
   rw[if_pos rfl]
   have:V4 ((a,u)::m) a=m:=by
    simp only[V4,US,ne_eq,not_true_eq_false,decide_false,RD,if_false]
    exact without_of_not_mem m _ nd'.1
   rw[this];exact r
  ·rw[if_neg ha]
   have:V4 ((a,u)::m) k=(a,u)::V4 m k:=by simp only[V4,US,ne_eq,decide_eq_true ha,if_true]
   rw[this];exact .cons z (ih nd'.2)
theorem iy.len(r:iy h H XJ l m):l.length=m.length:=by
 induction r with
 | nil=>rfl
 | cons _ _ ih=>simp[ih]
end
theorem oF{h:Heap}(d:h.DictOf (Q5 prog w) a m):(m.map (·.1)).Nodup:=by
 obtain⟨o,es,ep,_,_,_,_,_,nd⟩:=d;exact nd
section
variable {c:Cf} {H:List Addr} {XJ:dF} {Xx:St} {s:QR}
theorem iV{i:Nat}(v:cH c s.heap H XJ Xx)(ha:XJ[i]?=some a)(e:Xx[i]?=some (.idict l)):
  a.1=a.2∧l.length≤2 ^ 20∧(a.2==Uf)=false∧∃ m,s.heap.DictOf (Q5 c.prog c.w) a.2 m∧iy s.heap H XJ l m:=by
 obtain⟨q,e1,hq,hl,lo,m,g,k,V⟩:=v.rep.objs i _ e
 rw[ha] at e1;cases e1
 exact⟨hq,hl,lo,m,g,.of k V⟩
theorem rd(hq:a.1=a.2)(hl:l.length≤2 ^ 20)(lo:(a.2==Uf)=false)(g:h'.DictOf (Q5 c.prog c.w) a.2 m)(r:iy h' H XJ l m):OR c h' H XJ a (.idict l) :=
 ⟨hq,hl,lo,m,g,r.keys,r.vals⟩
theorem jB:(Q5 c.prog c.w).is i (.int i t)=true:=by simp[Q5,Uw]
end
noncomputable def kp(i:Nat)(ps:List PV)(Xx:St):Option (PV×St):=(Du ps).bind fun x=>(mM x.1).bind fun k=>d7 qz Xx[i]? fun l=>some ((gu l k).getD x.2,Xx)
noncomputable def yd(i:Nat)(ps:List PV)(Xx:St):Option (PV×St):=(ot ps).bind fun p=>(mM p).bind fun k=>d7 qz Xx[i]? fun l=>(gu l k).bind fun p=>some (p,Xx.set i (.idict (qd l k)))
theorem yA:∀ (l:List (Int×PV)) (k:Int),(qd l k).length≤l.length:=by
 intro a_
 induction a_ with
 | nil =>
  intro _
  exact QZ _
 | cons x_ r ih =>
  obtain⟨a,p⟩:=x_
  intro k
  rw[DE]
  split
  ·simp
  ·have:=ih k;simp;omega
theorem E9:∀ (l:List (Int×PV)) (k:Int) (p:PV),(oE l k p).length≤l.length+1:=by
 intro a_
 induction a_ with
 | nil =>
  intro _ _
  exact QZ _
 | cons x_ r ih =>
  obtain⟨a,q⟩:=x_
  intro k p
  rw[DD]
  split
  ·simp
  ·have:=ih k p;simp;omega
theorem sy:wo "dict.get" kp:=fun {c A H XJ Xx s i a} r v ha ps vs V p XK h=>by
 refine aH (mO h) fun⟨p,dflt⟩ hx h1=>?_
 refine aH (mO h1) fun k hk h2=>?_
 refine aH (mK h2) fun l e h3=>?_
 cases B6 hx
 cases tx hk
 ·refine bA (dg h3) fun XV XW=>?_
  subst XV XW
  obtain⟨hq,hl,lo,m,g,R⟩:=iV v ha e
  refine V.e2 fun _ _ x x2 e_=>?_
  subst e_
  refine bM (DR.int x) fun t XW=>?_
  subst XW
  rw[hq]
  refine U1 R9 g.typeIs U2 (UT _ _ _) (meets_dict_get_default (Q5 c.prog c.w) _ jB lo _) ⟨_,g.mapOf,?_⟩
  have z:=R.get k
  cases q:gu l k with
  | none =>
   rw[q] at z
   have z:V3 m k=none:=z
   rw[z]
   exact .pst v .tok x2
  | some u =>
   rw[q] at z
   refine aH (z) fun w w1 w2=>?_
   rw[w1]
   exact .pst v .tok w2
theorem DF:wo "dict.pop" yd:=fun {c A H XJ Xx s i a} r v ha ps vs V p XK h=>by
 refine aH (mO h) fun p hx h1=>?_
 refine aH (mO h1) fun k hk h2=>?_
 refine aH (mK h2) fun l e h3=>?_
 refine aH (mO h3) fun u q h4=>?_
 cases qY hx
 cases tx hk
 ··refine bA (dg h4) fun XV XW=>?_
   subst XV XW
   obtain⟨hq,hl,lo,m,g,R⟩:=iV v ha e
   refine V.e1 fun _ x e_=>?_
   subst e_
   refine bM (DR.int x) fun t XW=>?_
   subst XW
   rw[hq]
   have z:=R.get k
   rw[q] at z
   refine aH (z) fun w w1 w2=>?_
   refine U1 Vh g.typeIs PySem.F.entry_dict_pop (PySem.F.args_dict_pop_2 _ _) (meets_dict_pop_there (knd:=Q5 c.prog c.w) (d:=a.2) jB [] (.inl rfl) rfl) ⟨m,w,g,?_,w1,fun h' g' hs=>?_⟩
   ·rw[← R.len];exact QH hl (by decide)
   ·have S:=v.updStp (t:=s.toks+1) ha hs.extBut (rd hq (QH (yA _ _) hl) lo g' ((R.imp fun p v x=>x.upd ha hs.extBut).del (oF g)))
    exact⟨_,S,w2.upd ha hs.extBut⟩
noncomputable def iW(Xx:St)(p:PV)(k:Int):Option PV :=
 if 0≤k∧k<2 ^ 30 then pD p (fun xs=>(xs[k.toNat]?).map .dat) (fun xs=>(xs[k.toNat]?).map .dat) fun i=>ou Xx[i]? (fun l=>l[k.toNat]?) fun l=>gu l k
 else none
noncomputable def aq(f g:EF):EF:=fun ρ Xx=>pP (f ρ Xx) fun p XA=>dh mM (g ρ XA) fun k XB=>(iW XB p k).map fun q=>(q,XB)
section
variable {d:Nat} {κ:Nm} {σ:List Str}
theorem HM {Xx:St} (v:cH c s.heap H XJ Xx) (hp:VR s.heap H XJ p o) (h:iW Xx p k=some q)
  (hsl:∀ o i,subscripted slice false o i=operate [o,i] (getItem o i)):QS c.M A (subscriptTail value slice o (.int k t)) (iQ c H s XJ Xx q) No s:=by
 refine bA (mI h) fun hk h'=>?_
 clear h
 ·refine yc h' (fun xs e h=>?_) (fun xs e h=>?_) fun i e h=>?_
  ·clear h'
   subst e
   refine iM (DR.list hp) fun a vs as e_3 L R=>?_
   subst e_3
   refine aH (Qx.mp h) fun x hx XX=>?_
   subst XX
   refine aH ((dj R).get (i:=k.toNat) (p:=.dat x) (by rw[Q7,hx];rfl)) fun u hu hr=>?_
   exact WX L.typeIs V5.lookup (VU (x:=u) L hk.1 (by have:=hk.2;exact nD) (by simpa using hu) (.pst v .refl hr)) (hsl _ _)
  ·clear h'
   subst e
   refine iM (DR.tuple hp) fun a vs as e_3 L R=>?_
   subst e_3
   refine aH (Qx.mp h) fun x hx XX=>?_
   subst XX
   refine aH ((dj R).get (i:=k.toNat) (p:=.dat x) (by rw[Q7,hx];rfl)) fun u hu hr=>?_
   have hlt:=(Qt.mp hu).1
   refine WX L.typeIs slot_tuple_getitem.lookup (PyProof.Rows.getItem_tuple (j:=k.toNat) (x:=u) L (by have:=hk.1;lia) (by have:=hk.2;exact nD) ?_ (by simpa using hu) (.pst v .refl hr)) (hsl _ _)
   have hneg:¬ k<0:=by lia
   have hlt':k<(vs.length:Int):=by lia
   simp only[seqIndex?,hneg,if_false,Ru]
   rw[if_pos (by simp only[Q4,decide_eq_true_eq];exact⟨hk.1,hlt'⟩)]
  ·clear h'
   subst e
   refine aH (hp.ref) fun a ha XX=>?_
   subst XX
   refine B8 h (fun l e h=>?_) fun l e h=>?_
   ·obtain⟨q',e1,hq,hl,vs,ep,g,V⟩:=v.rep.objs i _ e
    rw[ha] at e1;cases e1
    refine aH (V.get h) fun u hu hr=>?_
    have L:s.heap.IsList a.1 (QW vs):=⟨_,hq▸g,rfl,ep,rfl⟩
    exact WX L.typeIs V5.lookup (VU (x:=u) L hk.1 (by have:=hk.2;exact nD) (by simpa using hu) (.pst v .refl hr)) (hsl _ _)
   ·obtain⟨hq,hl,lo,m,g,R⟩:=iV v ha e
    have z:=R.get k
    rw[h] at z
    refine aH (z) fun w w1 w2=>?_
    rw[hq]
    exact WX g.typeIs slot_dict_getitem.lookup (wpAny_getItem_of (knd:=Q5 c.prog c.w) jB g.mapOf w1 (.pst v .tok w2)) (hsl _ _)
theorem aA(XZ:bG d κ σ value f)(X0:bG d κ σ slice g)(hsl:(fun o i=>subscripted slice false o i)=fun o i=>operate [o,i] (getItem o i):=by kernel_rfl):
  bG d κ σ (.Subscript value slice pos) (aq f g):=fun {c A env H XJ ρ Xx s} r y p XK h=>by
 refine cz (mP h) fun q XA h1 h=>?_
 refine cz (mN h) fun k XB h2 h=>?_
 refine aH (Qx.mp h) fun u hu e=>?_
 cases e
 refine Subscript_ (br (XZ r y _ _ h1) fun v s' z=>aH z fun XE x1 r1=>br (X0 r (y.step x1) _ _ h2) fun w s'' z=>aH z fun XF x2 r2=>?_)
 refine bM (DR.int r2) fun t XW=>?_
 subst XW
 exact br (HM x2.inv (x2.vr r1) hu (kY hsl)) fun _ _ z=>.next (x1.trans x2) z
theorem sA(xs:Array QM)(n:Nat)(f:Array QM→Array QM):∃ n',To f ⟨.type "list",none,.seq xs n,#[]⟩=⟨.type "list",none,.seq (f xs) n',#[]⟩:=⟨_,rfl⟩
theorem xR (ho:s.heap.get? l=some ⟨.type "list",none,.seq items n,#[]⟩)
  (h0:0≤k) (hfit:k<2 ^ 63) (hn:k<items.size) (hQ:∀ h' n',h'.get? l=some ⟨.type "list",none,.seq (items.setIfInBounds k.toNat v) n',#[]⟩→SU l s.heap h'→Q () { s with heap:=h' }) :
  QS (model prog w) A (Xe (.ref l) (.int k t) v) Q E s:=by
 revert k l Q prog w A t v E s items n
 refine @p9 _ _ _ _ _ _ _ _ _ _ _ _ _ (bi nI (bi nI (bi nI (bi nI (bi yr (bi qy (bi nI (bi nI (bi nI (bi kL nI)))))))))) ?_
 generalize q1 _=k,q2 _=l,q3 _=Q,q4 _=prog,q5 _=w,q6 _=A,q7 _=t,q8 _=v,q9 _=E,lI _=s,qx _=items,qe _=n
 intro ho h0 hfit hn hQ
 have hl:s.heap.IsList l items:=⟨_,ho,rfl,n,rfl⟩
 unfold Xe
 try with_reducible refine Rd ?_
 first | refine Qr (QB ?_) | skip
 refine Qr (wpAny_sequenceKey hl.typeIs (by decide) ?_)
 refine Qr (wpAny_callSpecial?_slot (name:=Qn "__setitem__") hl.typeIs V6
  (UM V6 hl.typeIs entry_list_setitem ?_ (args_list_setitem _ _ _)))
 show QS _ _ (Builtin.List.listSubscript? (.int k t) >>=_) _ _ s
 refine Qr (wpAny_listSubscript_int (fitsIndex_of h0 hfit) ?_)
 clear hfit
 obtain⟨j,rfl⟩:=Int.eq_ofNat_of_zero_le h0
 have hj:j<items.size:=by lia
 have hx':items[j]?=some items[j]:=Ur hj
 show QS _ _ ((seqItemAt l j >>=fun r=>pure (r.map (j,·))) >>=_) _ _ s
 refine Qr (Qr (wpAny_seqItemAt ho rfl (QB ?_)))
 rw[hx']
 show QS _ _ (setSeqItemAt l j v >>=_) _ _ s
 obtain⟨n',hd'⟩:=sA items n (·.setIfInBounds j v)
 have hfin:(s.heap.update l (To (·.setIfInBounds j v))).get? l=some ⟨.type "list",none,.seq (items.setIfInBounds j v) n',#[]⟩:=by
  rw[Sv _ ho (by rw[hd'];rfl),hd']
 refine Qr (wpAny_setSeqItemAt ho rfl ?_)
 first
  | exact Qr (QB (QB ⟨.none,rfl,QB (hQ _ _ hfin (SM ..))⟩))
  | exact QB ⟨.none,rfl,QB (hQ _ _ hfin (SM ..))⟩
noncomputable def re(Xx:St)(p:PV)(k:Int)(q:PV):Option St:=(jX p).bind fun i=>ou Xx[i]? (fun l=>if 0≤k∧k<l.length then some (Xx.set i (.list (l.set k.toNat q))) else none) fun l=>if l.length<2 ^ 20 then some (Xx.set i (.idict (oE l k q))) else none
noncomputable def gj(fv fo fi:EF):SF:=fun ρ Xx=>pP (fv ρ Xx) fun q XA=>pP (fo ρ XA) fun p XB=>dh mM (fi ρ XB) fun k XC=>(re XC p k q).map fun XD=>(.next,ρ,XD)
theorem HN{Xx XK:St}(v:cH c s.heap H XJ Xx)(hp:VR s.heap H XJ p o)(hq':VR s.heap H XJ q u)(h:re Xx p k q=some XK):
  QS c.M A (Xe o (.int k t) u) (fun _ s'=>bP c H [] s XJ s' XJ XK) No s:=by
 refine aH (mO h) fun i e h'=>?_
 clear h
 cases tw e
 ·refine aH (hp.ref) fun a ha XX=>?_
  subst XX
  refine B8 h' (fun l e h=>?_) fun l e h=>?_<;>clear h'
  ·refine bA (mI h) fun hk h=>?_
   obtain rfl:=cE h
   obtain⟨q',e1,hq,hl,vs,ep,g,V⟩:=v.rep.objs i _ e
   rw[ha] at e1;cases e1
   have XQ:=V.length
   rw[hq]
   refine xR g hk.1 (by have:=hk.2;lia) (by simp;lia) fun h' n' g' hs=>?_
   refine v.updStp ha hs.extBut (o':=.list (l.set k.toNat q)) ⟨hq,by simpa using hl,vs.set k.toNat u,n',by simpa using g',?_⟩
   exact(V.upd ha hs.extBut).set (hq'.upd ha hs.extBut) _
  ·refine bA (mI h) fun hl' h=>?_
   obtain rfl:=cE h
   obtain⟨hq,hl,lo,m,g,R⟩:=iV v ha e
   rw[hq]
   refine wpAny_setItem_pairs (knd:=Q5 c.prog c.w) jB g (fun h' g' hs=>?_) (by rw[← R.len];exact QH hl (by decide))
   exact v.updStp ha hs.extBut (rd hq (by have:=E9 l k q;exact QH (by assumption) (by assumption)) lo g' ((R.imp fun p v x=>x.upd ha hs.extBut).set (hq'.upd ha hs.extBut) (oF g)))
theorem j9(XZ:bG d κ σ value fv)(X0:bG d κ σ o fo)(X3:bG d κ σ i fi)(hs:(fun env=>Ua value (some (.Subscript o i p₁)) p₂.line env)=fun env=>pure false:=by rfl):
  io d κ σ (.Assign [.Subscript o i p₁] value p₂) (gj fv fo fi):=fun {c A env H XJ ρ Xx s} r y fl Yg XK h=>by
 refine cz (mP h) fun q XA h1 h=>?_
 refine cz (mP h) fun p XB h2 h=>?_
 refine cz (mN h) fun k XC h3 h=>?_
 refine aH (Qx.mp h) fun XD h4 e=>?_
 cases e
 refine U3 (br (XZ r y _ _ h1) fun v Yb z=>aH z fun XE x1 r1=>br (X0 r (y.step x1) _ _ h2) fun ov Yc z=>aH z fun XF x2 r2=>br (X3 r ((y.step x1).step x2) _ _ h3) fun iv t₃ z=>aH z fun XG x3 r3=>?_) (congrFun hs env)
 refine bM (DR.int r3) fun t XW=>?_
 subst XW
 refine br (HN x3.inv (x3.vr r2) (x3.vr (x2.vr r1)) h4) fun _ X4 S=>?_
 have T:=((x1.trans x2).trans x3).trans S
 exact⟨_,T.own y,(y.step T).env,trivial⟩
noncomputable def cM(f:EF):SF:=fun ρ Xx=>dh GI (f ρ Xx) fun _ XA=>some (.next,ρ,XA)
theorem cL(XZ:bG d κ σ e f)(hs:(fun env=>Ua e none pos.line env)=fun env=>pure false:=by rfl):io d κ σ (.Expr e pos) (cM f):=fun {c A env H XJ ρ Xx s} r y fl Yg XK h=>by
 refine cz (kW (g:=fun _=>PV.dat .none) h GO) fun _ XA h1 h=>?_
 ·refine iL (jp h) fun XV XW XX=>?_
  subst XV XW XX
  refine wpAny_Expr (br (XZ r y _ _ h1) fun v s' z=>aH z fun XE x q=>?_) (by unfold interactive;rw[y.env.kind];rfl) (congrFun hs env)
  have e:=DR.none q
  subst e
  exact⟨XE,x.own y,(y.step x).env,trivial⟩
end
noncomputable def ye(K:Frag)(C:Addr)(x:Str):Bool:=plainOver K C&&WV K (.ref C) "__setattr__"==some (some (.builtin "object.__setattr__"))&&WV K (.ref C) x==some none&&(clsIn K C).any (·.hasDict)
theorem Fa {m:Str→Option QM} (ho:s.heap.get? a=some o) (hd:o.data=.dict es ep) (hk:Xc es)
  (hm:∀ x,WT es x=m x) (hQ:∀ h' o' es' ep',h'.get? a=some o'→o'.data=.dict es' ep'→Xc es'→(∀ x,WT es' x=if x=name then some v else m x)→es'.size≤es.size+(if(m name).isSome then 0 else 1)→SU a s.heap h' →
   Q () { s with heap:=h',toks:=s.toks+1 }):QS M A (nsSet a name v) Q E s:=fun Γ p _=>by
 simp only[nsSet,strHash,Xf,Sem.wp_cmd_ask,Sem.wp_pure',Sem.wp_cmd_mkText]
 rw[Sem.wp_loadPart_of M Γ _ p { s with toks:=s.toks+1 } (o:=o) _ ho]
 have hany:es.any (·.refKey)=false:=by
  rw[Array.any_eq_false'];intro e he;obtain⟨n,t,h⟩:=hk e he;simp[Wj,h]
 simp only[hd,aRefKeyMayBeTheName_eq,aRefKeyMayBeTheNameByArray,hany,Bool.and_false,RD,if_false,Sem.wp_cmd_updatePart]
 refine⟨by rw[ho];rfl,?_⟩
 obtain⟨c,d,dt,sl⟩:=o
 subst hd
 cases hi:es.findIdx? (·.key.isStr name) with
 | some i =>
  refine hQ _ _ (es.modify i fun e=>{ e with val:=v }) ep (Sv _ ho (by simp only[Uk,Tp,hi];rfl)) (by simp only[Uk,Tp,hi]) (hk.modify _ _) (fun x=>?_) (by rw[Array.size_modify];exact Ri _ _) (SM ..)
  rw[← hm];exact findBy_modify (fun n v=>v.isStr n) Value.isStr_inj es name x v i hi
 | none =>
  have hmn:m name=none:=by
   rw[← hm];simp only[WT,findBy,U4]
   rw[Array.find?_eq_none]
   rw[Array.findIdx?_eq_none_iff] at hi
   intro x hx;simpa using hi x hx
  refine hQ _ _ _ (ep+1) (Sv _ ho (by simp only[Uk,Tp,hi];rfl)) (by simp only[Uk,Tp,hi];rfl) (hk.push _ _ _ _) (fun x=>?_) (by rw[hmn];simp) (SM ..)
  rw[← hm]
  exact findBy_push (fun n v=>v.isStr n) es name x _ _ v (fun y=>by
   show(name==y)=decide (y=name)
   by_cases h:y=name
   ·subst h;simp
   ·have:¬ name=y:=fun e=>h e.symm
    simp[h,this]) hi
theorem Ky(fs:List (Option PV)):jb fs≤fs.length:=List.countP_le_length
theorem HO(fs:List (Option PV)):∀ (j:Nat) (q:PV),(fs[j]?=some none→jb (fs.set j (some q))=jb fs+1)∧((∃ p,fs[j]?=some (some p))→jb (fs.set j (some q))=jb fs):=by
 induction fs with
 | nil=>intro j q;exact⟨fun h=>(by cases h),fun h=>(by obtain⟨_,h⟩:=h;cases h)⟩
 | cons x r ih =>
  intro j q
  cases j with
  | zero=>exact⟨fun h=>(by cases h;simp[jb]),fun h=>(by obtain⟨_,h⟩:=h;cases h;simp[jb])⟩
  | succ j =>
   refine⟨fun h=>?_,fun h=>?_⟩
   ·rw[VV,jb,jb,TK,TK,show Xp _ _=_ from(ih j q).1 h,Tq];rfl
   ·rw[VV,jb,jb,TK,TK,show Xp _ _=_ from(ih j q).2 h];rfl
noncomputable def lb(Xx:St)(p:PV)(C:Addr)(j:Nat)(q:PV):Option St:=(jX p).bind fun i=>d7 Ba Xx[i]? fun x=>if x.1==C then some (Xx.set i (.inst C (x.2.set j (some q)))) else none
noncomputable def cJ(C:Addr)(j:Nat)(fv fo:EF):SF:=fun ρ Xx=>pP (fv ρ Xx) fun q XA=>pP (fo ρ XA) fun p XB=>(lb XB p C j q).map fun XC=>(.next,ρ,XC)
theorem DG(C:Addr):(gh C).length≤14:=by
 unfold gh
 split
 ·decide
 ·split
  ·decide
  ·split<;>decide
section
variable {d:Nat} {κ:Nm} {σ:List Str}
theorem Fb {Xx XK:St} {C:Addr} (v:cH c s.heap H XJ Xx) (hp:VR s.heap H XJ p o) (hq:VR s.heap H XJ q u) (h:lb Xx p C j q=some XK)
  (hm:∀ P,ye (KF P) C x=true) (hj:(gh C)[j]?=some x) (nd:(gh C).Nodup):QS c.M A (setAttr o x u) (fun _ s'=>bP c H [] s XJ s' XJ XK) No s:=by
 revert c H XJ p o q u j x A s Xx XK C
 refine @jV _ _ _ _ _ _ _ _ (bi ox nI) ?_
 generalize q1 _=c,q2 _=H,q3 _=XJ,q4 _=p,q5 _=o,q6 _=q,qe _=u
 refine @jV _ _ _ _ _ _ _ _ (bi nI (bi nI (bi qy (bi kL nI)))) ?_
 generalize q1 _=j,q2 _=x,q3 _=A,q4 _=s,q5 _=Xx,q6 _=XK,qe _=C
 intro v hp hq h hm hj nd
 refine aH (mO h) fun i ei h=>?_
 cases tw ei
 ·refine aH (hp.ref) fun a ha XX=>?_
  subst XX
  refine aH (mV h) fun⟨C',fs⟩ e h=>?_
  ·refine bA (mI h) fun hC h2=>?_
   ·have hC:C=C':=(beq_iff_eq.mp hC).symm
    subst hC
    cases h2
    refine NH (tA v e) fun a' m od e1 I d4 d5 hn hb=>?_
    rw[ha] at e1;cases e1
    have hm:=hm c.P
    rw[← v.ok.hK] at hm
    unfold ye at hm
    simp only[Q4,beq_iff_eq] at hm
    obtain⟨⟨⟨h1,h2⟩,h3⟩,h4⟩:=hm
    refine aH (any_some h4) fun cd hcd hdict=>?_
    refine set_plain v.KIn I h2 (osa_open (s:={ s with toks:=s.toks+1 }) v.KIn I h1 (r:=none) (by unfold takerIn;rw[h3];rfl) fun b=>?_)
    have hx:=I.at_
    refine Qr (QB (Qr (Qr (wpAny_loadPart hx (Qr ((looks_clsIn (M:=c.M) (h:=s.heap) v.KIn hcd) _ _ _ _ (fun _ _ e=>e) ?_))))))
    rw[hdict]
    refine QB (a:=some a.2) (Qr (QB (Qr ?_)))
    refine Pq (hn) fun es ep n1 n2 n3 n4 n5=>?_
    have hlt:j<fs.length:=by rw[d5.1];exact(Qt.mp hj).1
    have hcnt:es.size+(if(m x).isSome then 0 else 1)≤jb (fs.set j (some q)):=by
     have z:=d5.2.2 j x hj
     have b:=HO fs j q
     rw[SL hlt] at z b
     cases g:fs[j] with
     | none=>rw[g] at z b;rw[b.1 rfl];split<;>lia
     | some w =>
      rw[g] at z b
      refine aH (z) fun t t1 _=>?_
      rw[b.2 ⟨w,rfl⟩,t1]
      exact n5
    refine Fa (s:={ s with toks:=s.toks+1 }) n1 n2 n3 n4 fun h' o' es' ep' g1 g2 g3 g4 g5 hs'=>?_
    have hsz:es'.size≤jb (fs.set j (some q)):=QH g5 hcnt
    refine Qr (wpAny_lookBehind g1 (by rw[g2];exact pastItsLine_dict (by have:=Ky (fs.set j (some q));rw[SY,d5.1] at this;have:=DG C;rw[Vt];lia)) ?_)
    refine QB ?_
    refine v.updStp ha hs'.extBut (o':=.inst C (fs.set j (some q))) ⟨?_,hb,_,⟨o',es',ep',g1,g2,g3,g4⟩,?_,o',es',ep',g1,g2,hsz⟩
    ·have ne:a.1≠a.2:=fun w=>hb (Qo _ (QL.mpr ⟨a,QU ha,w.symm⟩))
     exact hs'.extBut _ _ ne I.at_
    ·refine iL (d5) fun f1 f2 f3=>?_
     have xm:x∈gh C:=QU hj
     refine⟨by rw[SY];exact f1,fun y hy=>?_,fun n y hy=>?_⟩
     ·have hyx:y≠x:=fun w=>hy (by rw[w];exact xm)
      dsimp only
      rw[if_neg hyx];exact f2 y hy
     ·by_cases hnj:n=j
      ·subst hnj
       rw[hj] at hy;cases hy
       have hlt:n<fs.length:=by rw[f1];exact(Qt.mp hj).1
       rw[RW hlt]
       exact⟨u,by simp,hq.upd ha hs'.extBut⟩
      ·rw[SG (Tc hnj)]
       have XU:y≠x:=fun w=>by
        subst w
        obtain⟨l1,e1⟩:=Qt.mp hy
        obtain⟨l2,e2⟩:=Qt.mp hj
        exact hnj ((Sj nd).mp (e1.trans e2.symm))
       have z:=f3 n y hy
       dsimp only
       rw[if_neg XU]
       cases g:fs[n]? with
       | none=>rw[g] at z;exact z
       | some w=>cases w with
        | none=>rw[g] at z;exact z
        | some w=>rw[g] at z;obtain⟨t,t1,t2⟩:=z;exact⟨t,t1,t2.upd ha hs'.extBut⟩
noncomputable def Cg:List (Addr×Str):=[((1002:Addr),Qn "bank"),((1002:Addr),Qn "known"),((1002:Addr),Qn "no"),((1002:Addr),Qn "yes"),((688:Addr),Qn "bv_numbers"),((688:Addr),Qn "false_number"),((688:Addr),Qn "fresh_count"),((688:Addr),Qn "fun_args"),((688:Addr),Qn "fun_names"),((688:Addr),Qn "fun_results"),((688:Addr),Qn "numbers"),((688:Addr),Qn "sort_names"),((688:Addr),Qn "sort_widths"),((688:Addr),Qn "term_args"),((688:Addr),Qn "term_datas"),((688:Addr),Qn "term_ops"),((688:Addr),Qn "term_sorts"),((688:Addr),Qn "true_number"),((740:Addr),Qn "constant"),((740:Addr),Qn "parts")]
theorem HP:∀ P,Cg.map (fun x=>ye (KF P) x.1 x.2)=Cg.map (fun _=>true):=fun P=>by kernel_rfl
theorem sT(h:Cg.contains (C,x)=true)(P:Sp):ye (KF P) C x=true:=SD.mp (HP P) (C,x) (S3.mp h)
theorem cj (XZ:bG d κ σ value fv) (X0:bG d κ σ o fo) (hm:Cg.contains (C,x)=true:=by kernel_rfl) (hj:(gh C)[j]?=some x:=by rfl) (nd:(gh C).Nodup:=by decide)
  (hs:(fun env=>Ua value (some (.Attribute o x p₁)) p₂.line env)=fun env=>pure false:=by rfl):io d κ σ (.Assign [.Attribute o x p₁] value p₂) (cJ C j fv fo):=fun {c A env H XJ ρ Xx s} r y fl Yg XK h=>by
 refine cz (mP h) fun q XA h1 h=>?_
 refine cz (mP h) fun p XB h2 h=>?_
 refine aH (Qx.mp h) fun XD h4 e=>?_
 cases e
 refine plainObj_wpAny_Assign_Attribute (br (XZ r y _ _ h1) fun v Yb z=>aH z fun XE x1 r1=>br (X0 r (y.step x1) _ _ h2) fun ov Yc z=>aH z fun XF x2 r2=>?_) (congrFun hs env)
 refine br (Fb x2.inv r2 (x2.vr r1) h4 (sT hm) hj nd) fun _ X4 S=>?_
 have T:=(x1.trans x2).trans S
 exact⟨_,T.own y,(y.step T).env,trivial⟩
noncomputable def eH(t:TF)(f:SF):Nat→SF
 | 0,_,_=>none
 | n+1,ρ,Xx=>lJ (t ρ Xx) (fun XA=>yy (f ρ XA) (eH t f n)) fun XA=>some (.next,ρ,XA)
noncomputable def VI(c:Cf)(κ:Nm)(σ:List Str)(env:Env)(H:List Addr)(s:QR)(XJ:dF)(out:Option (Fl×Sl×St))(g:Nat→Sl→St→Option (Fl×Sl×St))(k:Nat)(s':QR):Prop :=
 ∃ XE X6 XA,bP c H (own σ env) s XJ s' XE XA∧er κ σ env s'.heap H XE X6∧g k X6 XA=out
theorem nS(n:Nat)(XZ:gL d κ σ t ft)(X0:fm d κ σ body f):io d κ σ (.While t body [] pos) (eH ft f n):=by
 intro c A env H XJ ρ Xx s r y fl Yg XK h
 revert XZ X0 r y h
 revert d κ σ t ft body f pos n c A env H XJ ρ Xx s fl Yg XK
 refine @si _ _ _ _ _ _ _ _ _ _ _ (bi nI (bi nI (bi nI (bi nI (bi nI (bi nI (bi nI (bi nI (bi nI ox))))))))) ?_
 generalize q1 _=d,q2 _=κ,q3 _=σ,q4 _=t,q5 _=ft,q6 _=body,q7 _=f,q8 _=pos,q9 _=n,qe _=c
 refine @si _ _ _ _ _ _ _ _ _ _ _ (bi qy (bi nI (bi nI (bi nI (bi nI (bi nI (bi kL nI))))))) ?_
 generalize q1 _=A,q2 _=env,q3 _=H,q4 _=XJ,q5 _=ρ,q6 _=Xx,q7 _=s,q8 _=fl,q9 _=Yg,qe _=XK
 intro XZ X0 r y h
 refine wpAny_While (codeAny_whileLoop (VI c κ σ env H s XJ (some (fl,Yg,XK)) (eH ft f)) ?_ n ⟨XJ,ρ,Xx,(bP.refl y.inv).own y,y.env,h⟩)
 clear h n
 rintro n s' ⟨XE,X6,XA,S,E₁,h⟩
 have y₁:Ev c κ σ env H XE X6 XA s':=⟨E₁,S.inv⟩
 cases n with
 | zero=>cases h
 | succ n =>
  refine xe h (fun XB ht h=>?_) fun XB ht h=>?_
  ·refine br (XZ r y₁ _ _ ht) fun b Yc z=>?_
   refine bA z fun e z=>?_
   refine bM z fun XF x=>?_
   subst e
   refine NN h (fun fl X7 XC hn hb h=>?_) fun q X7 XC hb h=>?_
   ·refine br (X0 r (y₁.step x) _ _ _ hb) fun flow t₃ z=>?_
    refine d9 z fun XG S₃ E₃ q=>?_
    rcases Dx.nc hn q with e | e<;>subst e<;>exact⟨n,Sk _,XG,X7,XC,(S.trans (x.own y₁)).trans S₃,E₃,h⟩
   ·refine iL (jp h) fun XV XW XX=>?_
    subst XV XW XX
    refine br (X0 r (y₁.step x) _ _ _ hb) fun flow t₃ z=>?_
    refine d9 z fun XG S₃ E₃ q=>?_
    cases flow<;>first | exact q.elim | skip
    exact⟨XG,(S.trans (x.own y₁)).trans S₃,E₃,q⟩
  ·refine iL (jp h) fun XV XW XX=>?_
   subst XV XW XX
   refine br (XZ r y₁ _ _ ht) fun b Yc z=>?_
   refine bA z fun e z=>?_
   refine bM z fun XF x=>?_
   subst e
   exact Vb ⟨XF,S.trans (x.own y₁),(y₁.step x).env,trivial⟩
noncomputable def oG(is:List Nat)(g:LF):SF:=fun ρ Xx=>pP (g ρ Xx) fun ps XA=>if small ps then(jd is ps ρ).map fun X6=>(.next,X6,XA) else none
theorem uw (nd:σ.Nodup) (N:gN ve κ σ es is) (L:fL d κ σ vs g)
  (hs:(fun env=>UF [.Tuple es k p₁] (.Tuple vs k' p₂) p₃.line env)=fun env=>pure false:=by rfl)
  (hw:∀ env:Env,env.scope.names=κ→env.scope.kind=.function→S0 [.Tuple es k p₁] (.Tuple vs k' p₂) env=pure none) :
  io d κ σ (.Assign [.Tuple es k p₁] (.Tuple vs k' p₂) p₃) (oG is g):=fun {c A env H XJ ρ Xx s} r y fl Yg XK h=>by
 refine cz (mP h) fun ps XA h1 h=>?_
 refine bA (mI h) fun hsm h=>?_
 refine aH (Qx.mp h) fun X6 h2 e=>?_
 cases e
 refine V7 (WA (br (L r y _ _ h1 p₂) fun us XZ z=>aH z fun XE x1 V=>?_)) (congrFun hs env) (hw env y.env.names y.env.kind)
 have XQ:ps.length≤2 ^ 20:=of_decide_eq_true hsm
 refine⟨by rw[← V.length];exact QH XQ (by decide),?_⟩
 have pk:ez XZ { XZ with heap:=XZ.heap.push { cls:=.type "tuple",data:=.seq us.toArray } }:=ip
 have S₂:=pk.stp x1.inv
 have hl:is.length=us.length:=(k0 h2).trans V.length
 refine Uj r.handled (items:=us.toArray) ⟨_,QI _ rfl,rfl,_,rfl⟩ (by rw[(N.len env).1,hl];simp) (N.len env).2 fun h' he=>?_
 have P:ez { XZ with heap:=XZ.heap.push { cls:=.type "tuple",data:=.seq us.toArray } } { XZ with heap:=h' }:=⟨fun b o e=>he b o (Rq (Q1 e)) e,_,_,rfl⟩
 have S₃:=P.stp S₂.inv
 have T:=(x1.trans S₂).trans S₃
 refine br (mx (fun y=>(bP.refl y.inv).own y) (fun hi hk y a=>iR y hi nd (ty hk) a) N (y.step T) (S₃.vrs (S₂.vrs V)) h2) fun _ s' z=>bA z fun S₄ E₄=>⟨_,(T.own y).trans S₄,E₄,trivial⟩
noncomputable def gC(is:List Nat)(f:EF):SF:=fun ρ Xx=>pP (f ρ Xx) fun p XA=>(eG is p ρ).map fun X6=>(.next,X6,XA)
theorem jC (XZ:bG d κ σ e f) (N:gN ve κ σ es is) (nd:σ.Nodup:=by decide +kernel)
  (hs:(fun env=>UF [.Tuple es k p₁] e p₃.line env)=fun env=>pure false:=by rfl) (hw:(fun(env:Env)=>S0 [.Tuple es k p₁] e env)=fun env=>pure none:=by rfl) :
  io d κ σ (.Assign [.Tuple es k p₁] e p₃) (gC is f):=fun {c A env H XJ ρ Xx s} r y fl Yg XK h=>by
 refine cz (mP h) fun p XA h1 h=>?_
 refine aH (Qx.mp h) fun X6 h2 e=>?_
 cases e
 refine V7 (br (XZ r y _ _ h1) fun v XZ z=>aH z fun XE x1 q=>?_) (congrFun hs env) (congrFun hw env)
 exact br (iU N nd r.handled (y.step x1) q _ h2) fun _ s' z=>bA z fun S₄ E₄=>⟨_,(x1.own y).trans S₄,E₄,trivial⟩
end
theorem xS(hg:gens[k]?=some ⟨XS,iter,ifs,0⟩)(hn:gens[k+1]?=none):
  Vu (.ListComp XT gens scope pos) k it acc env=(do
   Su iter.pos
   match ← Xd it with
   | none=>pure (.done .next)
   | some v =>
    Tl XS it v
    TH XS env v
    let mut ok:=true
    for c in ifs do
     if ok then ok ← isTrue c env (eval c env)
    if ok then
     (do let _ ← call (.builtin "list.append") [acc,← eval XT env])
    again (.compLoop (.ListComp XT gens scope pos) k it acc env)):=by
 unfold Vu
 simp only[hg,hn]
 rfl
theorem xT(hg:gens[k]?=some ⟨XS,iter,ifs,0⟩)(hn:gens[k+1]?=some ⟨tgt',iter',ifs',0⟩):
  Vu (.ListComp XT gens scope pos) k it acc env=(do
   Su iter.pos
   match ← Xd it with
   | none=>pure (.done .next)
   | some v =>
    Tl XS it v
    TH XS env v
    let mut ok:=true
    for c in ifs do
     if ok then ok ← isTrue c env (eval c env)
    if ok then
     let x ← eval iter' env
     Su iter'.pos
     let x ← RL iter' env x
     let i ← S5 [x] (Wl x)
     let _ ← runOwn (.compStart (.ListComp XT gens scope pos) (k+1) i acc env) env
     again (.compLoop (.ListComp XT gens scope pos) k it acc env)
    else again (.compLoop (.ListComp XT gens scope pos) k it acc env)):=by
 unfold Vu
 simp only[hg,hn]
 rfl
noncomputable abbrev Bh(ifs:List Expr)(env:Env):Sem Bool:=forIn ifs true fun c r=>if r=true then do let ok ← isTrue c env (eval c env);pure (WF ok) else pure (WF r)
noncomputable def mU(e:Expr)(k:Nat)(it acc:QM)(env:Env)(XS:Expr)(ifs:List Expr)(tail:Sem Fin):Prop:=∃ p:Pos,
 Vu e k it acc env=(Su p >>=fun _=>Xd it >>=fun r=>match r with
  | none=>pure (.done .next)
  | some v=>Tl XS it v >>=fun _=>TH XS env v >>=fun _=>Bh ifs env >>=fun ok=>if ok=true then tail else again (.compLoop e k it acc env))
theorem ef(hg:gens[k]?=some ⟨XS,iter,ifs,0⟩)(hn:gens[k+1]?=none):
  mU (.ListComp XT gens scope pos) k it acc env XS ifs ((eval XT env >>=fun x=>call (.builtin "list.append") [acc,x] >>=fun _=>pure ()) >>=fun _=>again (.compLoop (.ListComp XT gens scope pos) k it acc env)) :=
 ⟨iter.pos,by rw[xS hg hn]⟩
theorem xl(hg:gens[k]?=some ⟨XS,iter,ifs,0⟩)(hn:gens[k+1]?=some ⟨tgt',iter',ifs',0⟩):
  mU (.ListComp XT gens scope pos) k it acc env XS ifs (eval iter' env >>=fun x=>Su iter'.pos >>=fun _=>RL iter' env x >>=fun x=>S5 [x] (Wl x) >>=fun i =>
   runOwn (.compStart (.ListComp XT gens scope pos) (k+1) i acc env) env >>=fun _=>again (.compLoop (.ListComp XT gens scope pos) k it acc env)) :=
 ⟨iter.pos,by rw[xT hg hn]⟩
noncomputable def pH(d:Nat)(κ:Nm)(σ:List Str)(ifs:List Expr)(f:TF):Prop :=
 ∀ ⦃c:Cf⦄ ⦃A:R7⦄ ⦃env:Env⦄ ⦃H:List Addr⦄ ⦃XJ:dF⦄ ⦃ρ:Sl⦄ ⦃Xx:St⦄ ⦃s:QR⦄,Rm A d→Ev c κ σ env H XJ ρ Xx s →
  ∀ (b:Bool) (XK:St),f ρ Xx=some (b,XK)→QS c.M A (Bh ifs env) (fun b' s'=>b'=b∧∃ XM,bP c H [] s XJ s' XM XK) No s
noncomputable def dn:TF:=fun _ Xx=>some (true,Xx)
noncomputable abbrev vm:=Sl→List PV→St→Option (Sl×List PV×St)
noncomputable def eT(XR:vk)(g:GF)(t:TF)(F:vm):Nat→Nat→vm
 | 0,j,ρ,acc,Xx=>pE (XR Xx j) (some (ρ,acc,Xx))
 | n+1,j,ρ,acc,Xx=>pJ (XR Xx j) fun p=>(g p ρ).bind fun X6=>lJ (t X6 Xx) (fun XA=>p3 (F X6 acc XA) (eT XR g t F n (j+1))) (eT XR g t F n (j+1) X6 acc)
noncomputable def cq(f:EF):vm:=fun ρ acc Xx=>pP (f ρ Xx) fun p XA=>if acc.length<2 ^ 20 then some (ρ,acc++[p],XA) else none
noncomputable def oH(src:IF)(g:GF)(t:TF)(F:vm):vm:=fun ρ acc Xx=>p3 (src ρ Xx) fun XR n XA=>eT XR g t F n 0 ρ acc XA
noncomputable def pK(κ:Nm)(σ:List Str)(XS:Expr)(g:GF):Prop :=
 ∀ ⦃c:Cf⦄ ⦃A:R7⦄ ⦃env:Env⦄ ⦃H:List Addr⦄ ⦃XJ:dF⦄ ⦃ρ:Sl⦄ ⦃Xx:St⦄ ⦃s:QR⦄ ⦃p:PV⦄ ⦃v:QM⦄,A.handled=none→Ev c κ σ env H XJ ρ Xx s→VR s.heap H XJ p v →
  ∀ Yg,g p ρ=some Yg→QS c.M A (TH XS env v) (fun _ s'=>bP c H [env.locals] s XJ s' XJ Xx∧er κ σ env s'.heap H XJ Yg) No s
noncomputable def jr(h:Heap)(H:List Addr)(XJ:dF)(D:Addr)(acc:List PV):Prop:=∃ ys:List QM,h.PlainList D (QW ys)∧cG h H XJ acc ys
structure Cv (c:Cf) (κ:Nm) (σ:List Str) (env:Env) (H:List Addr) (D:Addr) (X5:QR) (XI:dF) (XJ:dF) (ρ:Sl) (acc:List PV) (Xx:St) (s:QR):Prop where
 stp:bP c H [D,env.locals] X5 XI s XJ Xx
 env:er κ σ env s.heap H XJ ρ
 acc:jr s.heap H XJ D acc
section
variable {d:Nat} {κ:Nm} {σ:List Str}
theorem eU:pH d κ σ [] dn:=fun _ _ _ _ _ _ _ _ r y b XK h=>by
 obtain⟨rfl,rfl⟩:=dg h
 exact QB ⟨rfl,_,.refl y.inv⟩
theorem pL(XZ:gL d κ σ e f):pH d κ σ [e] f:=fun _ _ _ _ _ _ _ _ r y b XK h=>wpAny_tests_one (XZ r y _ _ h)
theorem jr.stp{Xx XK:St}(a:jr s.heap H XJ D acc)(S:bP c H X s XJ s' XM XK)(i:cH c s.heap H XJ Xx)(hD:D∈H)(hX:D∉X):jr s'.heap H XM D acc:=by
 refine aH (a) fun ys p V=>?_
 exact⟨ys,p.at fun o e=>S.keepH i hD hX e,S.vrs V⟩
noncomputable def CI(c:Cf)(κ:Nm)(σ:List Str)(env:Env)(W H:List Addr)(D:Addr)(J:Nat→dF→QR→Prop)(X5:QR)(XI:dF)(out:Option (Sl×List PV×St))(f:Nat→Nat→Sl→List PV→St→Option (Sl×List PV×St))(m:Nat)(s:QR):Prop :=
 ∃ j XJ ρ acc Xx,bP c (W++H) (W++[D,env.locals]) X5 XI s XJ Xx∧er κ σ env s.heap (W++H) XJ ρ∧jr s.heap (W++H) XJ D acc∧J j XJ s∧f m j ρ acc Xx=out
theorem yB
  (r:Rm A d) (I:qb c (W++H) XS XR it W J) (hW:∀ a∈W,a∉H) (G:pK κ σ XS g) (T:pH d κ σ ifs t) (hturn:mU (.ListComp XT gens scope pos) k it (.ref D) env XS ifs Yh) (hown:∀ a∈own σ env,a∈H) (hD:D∈H) (hDo:D∉own σ env)
  (hK:∀ (ρ Yg:Sl) (acc XN:List PV) (Xx XK:St) (s:QR) (XJ:dF),Ev c κ σ env (W++H) XJ ρ Xx s→jr s.heap (W++H) XJ D acc→F ρ acc Xx=some (Yg,XN,XK) →
   QS c.M A Yh (fun fin s'=>fin=.again (.compLoop (.ListComp XT gens scope pos) k it (.ref D) env)∧∃ XM,Cv c κ σ env (W++H) D s XJ XM Yg XN XK s') No s)
  (fin:∀ s XJ,bP c (W++H) (W++[D,env.locals]) X5 XI s XJ XK→er κ σ env s.heap (W++H) XJ Yg→jr s.heap (W++H) XJ D XN→∀ XZ,jc W s XZ→R (.ok .next) XZ) :
  ∀ (n j:Nat) (s:QR) (XJ:dF) (ρ:Sl) (acc:List PV) (Xx:St),bP c (W++H) (W++[D,env.locals]) X5 XI s XJ Xx→er κ σ env s.heap (W++H) XJ ρ→jr s.heap (W++H) XJ D acc→J j XJ s →
   eT XR g t F n j ρ acc Xx=some (Yg,XN,XK)→U0 c.M A (.compLoop (.ListComp XT gens scope pos) k it (.ref D) env) R s:=by
 intro n j s XJ ρ acc Xx S Er Ac hJ hf
 revert r I hW G T hturn hown hD hDo hK fin S Er Ac hJ hf
 revert d κ σ A c W H XS XR it J g ifs t XT gens scope pos k D env Yh F X5 XI XK Yg XN R n j s XJ ρ acc Xx
 refine @p9 _ _ _ _ _ _ _ _ _ _ _ _ _ (bi nI (bi nI (bi nI (bi qy (bi ox nI))))) ?_
 generalize q1 _=d,q2 _=κ,q3 _=σ,q4 _=A,q5 _=c,q6 _=W,q7 _=H,q8 _=XS,q9 _=XR,lI _=it,qx _=J,qe _=g
 refine @p9 _ _ _ _ _ _ _ _ _ _ _ _ _ (bi nI (bi nI (bi nI (bi nI (bi nI (bi nI (bi nI (bi nI (bi nI (bi nI (bi nI kL))))))))))) ?_
 generalize q1 _=ifs,q2 _=t,q3 _=XT,q4 _=gens,q5 _=scope,q6 _=pos,q7 _=k,q8 _=D,q9 _=env,lI _=Yh,qx _=F,qe _=X5
 refine @p9 _ _ _ _ _ _ _ _ _ _ _ _ _ (bi nI (bi nI (bi nI (bi nI (bi nI (bi nI (bi nI (bi kL nI)))))))) ?_
 generalize q1 _=XI,q2 _=XK,q3 _=Yg,q4 _=XN,q5 _=R,q6 _=n,q7 _=j,q8 _=s,q9 _=XJ,lI _=ρ,qx _=acc,qe _=Xx
 intro r I hW G T hturn hown hD hDo hK fin S Er Ac hJ hf
 refine codeAny_loop rfl (CI c κ σ env W H D J X5 XI (some (Yg,XN,XK)) (eT XR g t F)) ?_ n ⟨j,XJ,ρ,acc,Xx,S,Er,Ac,hJ,hf⟩
 clear hf hJ Ac Er S Xx acc ρ XJ s j n
 rintro n s ⟨j,XJ,ρ,acc,Xx,S,Er,Ac,hJ,hf⟩
 have hDW:D∉W:=fun h=>hW D h hD
 have hloc:env.locals∈own σ env:=gi.mpr (.inl rfl)
 have big:∀ a∈W++[D,env.locals],a∈W++H:=fun a ha=>by
  rcases Qw.mp ha with h | h
  ·exact Qq _ h
  ·rcases QJ.mp h with rfl | h
   ·exact Qo _ hD
   ·rw[Qu] at h
    subst h
    exact Qo _ (hown _ hloc)
 have wkW:∀ {s s' XJ XM XK},bP c (W++H) W s XJ s' XM XK→bP c (W++H) (W++[D,env.locals]) s XJ s' XM XK:=fun x=>x.weaken (fun a ha=>Qq _ ha) big
 have wkO:∀ {s s' XJ XM XK},bP c (W++H) [env.locals] s XJ s' XM XK→bP c (W++H) (W++[D,env.locals]) s XJ s' XM XK:=fun x=>x.weaken (fun a ha=>Qo _ (.tail _ ha)) big
 have wkD:∀ {s s' XJ XM XK},bP c (W++H) [D,env.locals] s XJ s' XM XK→bP c (W++H) (W++[D,env.locals]) s XJ s' XM XK:=fun x=>x.weaken (fun a ha=>Qo _ ha) big
 have wkN:∀ {s s' XJ XM XK},bP c (W++H) [] s XJ s' XM XK→bP c (W++H) (W++[D,env.locals]) s XJ s' XM XK:=fun x=>x.weaken (by simp) big
 have now:∀ a∈own σ env,a∉W:=fun a ha hw=>hW a hw (hown a ha)
 have nowL:∀ a∈[env.locals],a∉W:=fun a ha=>by rw[Qu] at ha;subst ha;exact now _ hloc
 have nowD:∀ a∈[D,env.locals],a∉W:=fun a ha=>by
  rcases QJ.mp ha with rfl | h
  ·exact hDW
  ·exact nowL a h
 have hDl:D∉[env.locals]:=fun h=>by rw[Qu] at h;exact hDo (h▸hloc)
 have hDH:D∈W++H:=Qo _ hD
 show QS c.M A ((Vu (.ListComp XT gens scope pos) k it (.ref D) env).onRaise (fun x=>do noteFrame x env;theTreesLotGoes x)) _ _ s
 refine bM (hturn) fun pp ht=>?_
 rw[ht]
 refine wpAny_onRaise (Qr (RI (Qr ?_)))
 cases n with
 | zero =>
  refine bA (mE hf) fun hc hf=>?_
  refine iL (jp hf) fun XV XW XX=>?_
  subst XV XW XX
  refine br (I.next r.handled S.inv hJ hc) fun o XZ z=>?_
  refine bA z fun e tt=>?_
  subst e
  exact QB (fin s XJ S Er Ac XZ tt)
 | succ n =>
  refine aH (mJ hf) fun p hc hf=>?_
  refine aH (mO hf) fun X6 hg hf=>?_
  refine br (I.next r.handled S.inv hJ hc) fun o XZ z=>?_
  refine aH z fun v e h=>?_
  subst e
  refine Qr (br h fun _ X0 z=>?_)
  refine Dm z fun tt l hv hJ₂=>Qr ?_
  have S₂:bP c (W++H) W s XJ X0 XJ Xx:=tt.stp S.inv l
  have E₂:er κ σ env X0.heap (W++H) XJ ρ:=by
   refine Er.move Er.locH (fun y hy hs=>(Er.cellH y hy hs).1) (fun b hb o e=>?_) fun p v z=>S₂.vr z
   have hbo:b∈own σ env:=gi.mpr (hb.imp_right fun z1=>d9 z1 fun z h1 h2 h3=>⟨z,h1,h2,h3⟩)
   exact S₂.keepH S.inv (Qo _ (hown b hbo)) (now b hbo) e
  refine br (G r.handled ⟨E₂,S₂.inv⟩ hv X6 hg) fun _ X3 z=>?_
  refine bA z fun S₃ E₃=>Qr ?_
  have J₃:=I.move nowL S₂.inv S₃ hJ₂
  have A₃:=(Ac.stp S₂ S.inv hDH hDW).stp S₃ S₂.inv hDH hDl
  refine xe hf (fun XB hb hf=>?_) fun XB hb hf=>?_
  ·refine br (T r ⟨E₃,S₃.inv⟩ _ _ hb) fun b X4 z=>?_
   refine bA z fun e z=>?_
   refine bM z fun ads₄ S₄=>?_
   subst e
   rw[if_pos rfl]
   have y₄:Ev c κ σ env (W++H) ads₄ X6 XB X4:=Ev.step ⟨E₃,S₃.inv⟩ S₄
   have J₄:=I.move (by simp) S₃.inv S₄ J₃
   have A₄:=A₃.stp S₄ S₃.inv hDH (by simp)
   refine u5 (m3 hf) fun ρ₅ acc₅ st₅ hF hf=>?_
   refine br (hK _ _ _ _ _ _ _ _ y₄ A₄ hF) fun f s₅ z=>?_
   refine bA z fun e z=>?_
   refine bM z fun XH C₅=>?_
   subst e
   exact⟨rfl,n,Sk _,j+1,XH,ρ₅,acc₅,st₅,(((S.trans (wkW S₂)).trans (wkO S₃)).trans (wkN S₄)).trans (wkD C₅.stp),C₅.env,C₅.acc,I.move nowD S₄.inv C₅.stp J₄,hf⟩
  ·refine br (T r ⟨E₃,S₃.inv⟩ _ _ hb) fun b X4 z=>?_
   refine bA z fun e z=>?_
   refine bM z fun ads₄ S₄=>?_
   subst e
   rw[if_neg (by decide)]
   have y₄:Ev c κ σ env (W++H) ads₄ X6 XB X4:=Ev.step ⟨E₃,S₃.inv⟩ S₄
   exact QB ⟨rfl,n,Sk _,j+1,ads₄,X6,acc,XB,((S.trans (wkW S₂)).trans (wkO S₃)).trans (wkN S₄),y₄.env,A₃.stp S₄ S₃.inv hDH (by simp),I.move (by simp) S₃.inv S₄ J₃,hf⟩
end
section
variable {d:Nat} {κ:Nm} {σ:List Str}
theorem DH {Xx XK:St} {code:Code} (r:Rm A d) (B:bG d κ σ XT f) (hD:D∈H) (hDo:D∉own σ env)
  (y:Ev c κ σ env H XJ ρ Xx s) (a:jr s.heap H XJ D acc) (h:cq f ρ acc Xx=some (Yg,XN,XK)) :
  QS c.M A ((eval XT env >>=fun x=>call (.builtin "list.append") [.ref D,x] >>=fun _=>pure ()) >>=fun _=>again code) (fun fin s'=>fin=.again code∧∃ XM,Cv c κ σ env H D s XJ XM Yg XN XK s') No s:=by
 refine cz (mP h) fun p XA h1 h=>?_
 refine bA (mI h) fun hl h=>?_
 cases h
 refine Qr (Qr (br (B r y _ _ h1) fun v XZ z=>aH z fun XE x1 q=>Qr ?_))
 refine aH (a.stp x1 y.inv hD (by simp)) fun ys pl V=>?_
 refine UP pl (fun h' pl' hs=>QB (QB ⟨rfl,XE,?_⟩)) (by rw[Ru,← V.length];exact QH (Xa hl) (by decide))
 have y₁:=y.step x1
 have lv:(h'.get? D).isSome=true:=by obtain⟨n,e⟩:=pl';rw[e];rfl
 have S₂:bP c H [D] XZ XE { XZ with heap:=h' } XE XK:=y₁.inv.touchStp (X:=[D]) (t:=XZ.toks) (by simpa using hD) (fun b o n e=>hs.extBut b o (by simpa using n) e) (by simpa using lv)
 have big:∀ b∈[D,env.locals],b∈H:=fun b hb=>by
  rcases QJ.mp hb with rfl | hb
  ·exact hD
  ·rw[Qu] at hb;subst hb;exact y.env.locH
 refine⟨(x1.weaken (by simp) big).trans (S₂.weaken (by simp) big),?_,ys++[v],by simpa using pl',(S₂.vrs V).snoc (S₂.vr q)⟩
 ·refine y₁.env.move y₁.env.locH (fun z hz hs=>(y₁.env.cellH z hz hs).1) (fun b hb o e=>hs.extBut b o (fun w=>hDo ?_) e) fun p v z=>S₂.vr z
  rw[← w]
  exact gi.mpr (hb.imp_right fun z1=>d9 z1 fun z h1 h2 h3=>⟨z,h1,h2,h3⟩)
theorem rT {c:Cf} (hg:gens[k]?=some ⟨XS,iter,ifs,0⟩)
  (h0:U0 c.M A (.compLoop (.ListComp XT gens scope pos) k it acc env) R s)
  (h:QS c.M A (Wl it) (fun it' s'=>U0 c.M A (.compLoop (.ListComp XT gens scope pos) k it' acc env) R s') (notedBy c.M A env fun x s'=>R (.error x) s') s) :
  U0 c.M A (.compStart (.ListComp XT gens scope pos) k it acc env) R s:=by
 refine codeAny_of_tree ?_
 show QS _ _ ((compStart (.ListComp XT gens scope pos) k it acc env).onRaise (fun x=>do noteFrame x env;Su theWindowsPlace)) _ _ s
 refine wpAny_notedAt ?_
 unfold compStart
 rw[show(clausesOf (.ListComp XT gens scope pos))[k]?=some ⟨XS,iter,ifs,0⟩ from hg]
 show QS _ _ (ask >>=_) _ _ s
 refine Qr (wpAny_askSetting (wpAny_ite ?_))
 split
 ·first
   | exact Qr (QB (QB (Wo rfl h0)))
   | exact QB (Wo rfl h0)
 ·first
   | exact Qr (WO (Qr (RI (Qr (S8 h (fun it' s' h'=>QB (Wo rfl h')) fun _ _ x=>x)))))
   | (refine Qr (WO ?_);show QS _ _ (Su iter.pos >>=_) _ _ s;exact Qr (RI (Qr (S8 h (fun it' s' h'=>QB (Wo rfl h')) fun _ _ x=>x))))
end
noncomputable def iX(cells:List (Str×Addr)):List (Str×RT)→List (Str×Addr)→List (Str×Addr)
 | [],acc=>acc
 | (n,k)::r,acc=>if k==.free then(match cells.lookup n with
  | some a=>iX cells r ((n,a)::acc)
  | none=>iX cells r acc) else iX cells r acc
theorem yC:iX cells ((n,k)::r) acc=if k==.free then(match cells.lookup n with
 | some a=>iX cells r ((n,a)::acc)
 | none=>iX cells r acc) else iX cells r acc:=rfl
theorem yD (f:Str×RT→List (Str×Addr)→Sem (ForInStep (List (Str×Addr))))
  (hf:∀ n k cs,f (n,k) cs=if k==.free then(do let a ← cellOf env n;pure (.yield ((n,a)::cs))) else pure (.yield cs)) :
  ∀ (names:List (Str×RT)) (acc:List (Str×Addr)),(∀ x∈names,x.2=.free→∃ a,env.cells.lookup x.1=some a)→forIn names acc f=(pure (iX env.cells names acc):Sem _):=by
 intro names
 induction names with
 | nil=>intro acc _;rfl
 | cons nk r ih =>
  obtain⟨n,k⟩:=nk
  intro acc h
  rw[List.forIn_cons,hf,yC]
  by_cases hk:(k==Tj)=true
  ·refine bM (h (n,k) (.head _) (beq_iff_eq.mp hk)) fun a ha=>?_
   have ha:env.cells.lookup n=some a:=ha
   rw[if_pos hk,if_pos hk,ha]
   unfold cellOf
   rw[ha]
   exact ih _ fun x hx=>h x (.tail _ hx)
  ·rw[if_neg hk,if_neg hk]
   exact ih _ fun x hx=>h x (.tail _ hx)
theorem xU(h:∀ x∈sc.names,x.2=.free→∃ a,env.cells.lookup x.1=some a):WY sc env=pure (iX env.cells sc.names []):=by
 simp only[WY]
 rw[yD (env:=env) _ (fun n k cs=>by cases hk:k==Tj<;>simp[hk]) sc.names [] h]
 rfl
theorem rh(cells:List (Str×Addr)):∀ (names:List (Str×RT)) (acc:List (Str×Addr)) (y:Str×Addr),y∈iX cells names acc→y∈acc∨((y.1,Tj)∈names∧cells.lookup y.1=some y.2):=by
 intro a_
 induction a_ with
 | nil =>
  intro acc y h
  exact .inl h
 | cons x_ r ih =>
  obtain⟨n,k⟩:=x_
  intro acc y h
  rw[yC] at h
  split at h
  ·rename_i hk
   split at h
   ·rename_i a ha
    rcases ih _ y h with h | ⟨h1,h2⟩
    ·rcases QJ.mp h with rfl | h
     ·exact .inr ⟨by rw[beq_iff_eq.mp hk];exact .head _,ha⟩
     ·exact .inl h
    ·exact .inr ⟨.tail _ h1,h2⟩
   ·rcases ih _ y h with h | ⟨h1,h2⟩
    ·exact .inl h
    ·exact .inr ⟨.tail _ h1,h2⟩
  ·rcases ih _ y h with h | ⟨h1,h2⟩
   ·exact .inl h
   ·exact .inr ⟨.tail _ h1,h2⟩
theorem xn(cells:List (Str×Addr)):∀ (names:List (Str×RT)) (acc:List (Str×Addr)) (n:Str) (a:Addr),cells.lookup n=some a→((n,Tj)∈names∨acc.lookup n=some a)→(iX cells names acc).lookup n=some a:=by
 intro a_
 induction a_ with
 | nil =>
  intro acc n a ha h
  rcases h with h | h
  ·cases h
  ·exact h
 | cons x_ r ih =>
  obtain⟨m,k⟩:=x_
  intro acc n a ha h
  rw[yC]
  split
  ·rename_i hk
   split
   ·rename_i b hb
    refine ih _ n a ha ?_
    by_cases hn:n=m
    ·subst hn
     rw[ha] at hb;cases hb
     exact .inr (by simp)
    ·rcases h with h | h
     ·rcases QJ.mp h with e | h
      ·cases e;exact absurd rfl hn
      ·exact .inl h
     ·exact .inr (by rw[RU,beq_eq_false_iff_ne.mpr hn];exact h)
   ·rename_i hb
    refine ih _ n a ha ?_
    rcases h with h | h
    ·rcases QJ.mp h with e | h
     ·cases e;rw[ha] at hb;cases hb
     ·exact .inl h
    ·exact .inr h
  ·rename_i hk
   refine ih _ n a ha ?_
   rcases h with h | h
   ·rcases QJ.mp h with e | h
    ·cases e;exact absurd rfl hk
    ·exact .inl h
   ·exact .inr h
noncomputable def Os(κ:Nm)(names:Nm):Nm:=names.map fun(n,k)=>if(k==.free&&κ.lookup n==some .cell) then(n,.cell) else(n,k)
structure eW (κ:Nm) (σ:List Str) (sc:Scope) (κ':Nm) (Xy frs:List Str) (fr:List Nat):Prop where
 kind:sc.kind=.function
 nocell:∀ x∈sc.names,x.2≠.cell
 locals:∀ x∈sc.names,x.2=.local→sc.names.lookup x.1=some .local
 names:Os κ sc.names=κ'
 frees:∀ x∈sc.names,x.2=.free→x.1∈σ∧κ.lookup x.1=some .cell
 look:∀ x∈frs,(x,Tj)∈sc.names∧κ'.lookup x=some .cell
 slots:fr.map (fun i=>σ[i]?)=frs.map some
 own:∀ x∈Xy,κ'.lookup x≠some .cell
noncomputable abbrev ib(n:Nat)(fr:List Nat)(ρ:Sl):Sl:=RA n none++fr.map fun i=>(ρ[i]?).join
theorem Fc {Xy frs:List Str} (ok:eW κ σ sc κ' Xy frs fr) {Xx:St} {s s':QR}
   (y:Ev c κ σ env H XJ ρ Xx s) (k:∀ b o,s.heap.get? b=some o→s'.heap.get? b=some o) (hC:s.heap.get? C=none) (hCH:C∈H') (hsub:∀ a∈H,a∈H') (hn:s'.heap.Ns C fun _=>none) (vr:∀ p v,VR s.heap H XJ p v→VR s'.heap H' XJ p v)
 (e1:cenv.scope=WH sc env) (e2:cenv.locals=C) (e3:cenv.globals=env.globals) (e4:cenv.cells=iX env.cells sc.names []) (e5:cenv.builtins=env.builtins) :
   er κ' (Xy++frs) cenv s'.heap H' XJ (ib Xy.length fr ρ):=by
  have hkn:∀ n,env.kindOf n=κ.lookup n:=fun n=>by unfold Sf;rw[y.env.names]
  have hsame:∀ x,x∈cenv.cells→(x.1,Tj)∈sc.names∧(x.1,x.2)∈env.cells:=fun x hx=>by
   refine cps fun G2 Yl=>?_
   rw[e4] at hx
   rcases rh _ _ _ x hx with h | ⟨h1,h2⟩
   ·cases h
   ·refine Yl ?_
    exact⟨h1,mem_of_lookup h2⟩
  have alive:∀ x∈cenv.cells,x.2∈H:=fun x hx=>(y.env.cellH _ (hsame x hx).2 (ok.frees _ (hsame x hx).1 rfl).1).1
  refine mH (y.env.vars) fun m cm h1 h2 h3=>?_
  refine⟨?_,by rw[e1];exact ok.kind,e3.trans y.env.glob,e5.trans y.env.blt,by rw[e2];exact hCH,fun x hx _=>⟨hsub _ (alive x hx),fun w=>?_⟩,fun x hx hk=>?_,fun x hx z hz w=>?_,?_,_,cm,by rw[e2];exact hn,fun n a hs e=>?_,fun i x p ei ep=>?_⟩
  ·rw[e1,← ok.names]
   refine Sg fun x hx=>?_
   obtain⟨n,kd⟩:=x
   simp only[hkn,y.env.kind,beq_self_eq_true,UG]
  ·refine bM (Qy.mp (y.inv.alive _ (alive x hx))) fun o e=>?_
   rw[w,e2,hC] at e;cases e
  ·rcases Qw.mp hx with h | h
   ·exact absurd hk (ok.own x h)
   ·refine bA (ok.look x h) fun q1 q2=>?_
    refine bA (ok.frees _ q1 rfl) fun q3 q4=>?_
    refine bM (y.env.cellsIn x q3 q4) fun a ha=>?_
    exact⟨a,by rw[e4];exact xn _ _ _ x a ha (.inl q1)⟩
  ·exact y.env.apart (x.1,x.2) (hsame x hx).2 (z.1,z.2) (hsame z hz).2 w
  ·have:fr.length=frs.length:=by have:=congrArg Vv ok.slots;simpa using this
   simp[ib,this]
  ·have hm:=mem_of_lookup e
   refine bA (hsame _ hm) fun q1 q2=>?_
   rw[e4] at hm
   rcases rh _ _ _ _ hm with h | ⟨_,h⟩
   ·cases h
   ·exact(h2 n a (ok.frees _ q1 rfl).1 h).keeps k
  ·refine cps fun G kG=>?_
   have hlt:¬ i<Xy.length:=fun hlt=>by
    rw[QD (by simpa using hlt),SO] at ep
    split at ep<;>cases ep
   rw[QE (by simpa using Wp hlt)] at ep
   rw[QE (Wp hlt)] at ei
   simp only[List.length_replicate] at ep
   rw[Q7] at ep
   refine aH (Qx.mp ep) fun i0 f1 f2=>?_
   have hs:=congrArg (fun l=>l[i - Xy.length]?) ok.slots
   simp only[Q7,f1,ei,RQ] at hs
   have hs:σ[i0]?=some x:=Rr hs
   have hρ:ρ[i0]?=some (some p):=by
    cases q:ρ[i0]? with
    | none=>rw[q] at f2;cases f2
    | some w=>rw[q] at f2;cases w with
     | none=>cases f2
     | some w=>cases f2;rfl
   refine aH (h3 i0 x p hs hρ) fun v v1 v2=>?_
   have hx:=ok.look x (QU ei)
   have hf:=ok.frees _ hx.1 rfl
   refine kG ?_
   refine⟨v,vr p v v1,.inr ⟨.inl hx.2,?_,?_⟩⟩
   ·refine bM (y.env.cellsIn x hf.1 hf.2) fun a ha=>?_
    exact⟨a,by rw[e4];exact xn _ _ _ x a ha (.inl hx.1)⟩
   ·rcases v2 with⟨w,_⟩ | ⟨_,_,w⟩
    ·rw[hf.2] at w;cases w
    ·exact w
noncomputable def lQ(d:Nat)(κ:Nm)(σ:List Str)(e:Expr)(k:Nat)(Yh:Env→QM→QM→Sem Fin)(F:vm):Prop :=
 ∀ {c:Cf} {A:R7} {env:Env} {H:List Addr} {XJ:dF} {ρ Yg:Sl} {acc XN:List PV} {Xx XK:St} {s:QR} {D:Addr} {it:QM},Rm A d→Ev c κ σ env H XJ ρ Xx s→D∈H→D∉own σ env→jr s.heap H XJ D acc →
  F ρ acc Xx=some (Yg,XN,XK)→QS c.M A (Yh env (.ref D) it) (fun fin s'=>fin=.again (.compLoop e k it (.ref D) env)∧∃ XM,Cv c κ σ env H D s XJ XM Yg XN XK s') No s
noncomputable def yE(c:Cf)(H:List Addr)(XZ:QR)(XE:dF)(XK:St)(XN:List PV)(C D:Addr)(s':QR):Prop :=
 XZ.heap.get? C=none∧XZ.heap.get? D=none∧C≠D∧(∃ m,s'.heap.Ns C m) ∧
 ∃ X X4 s₅ XH,D∈X∧C∉X∧ez XZ X4∧(∀ a∈X,XZ.heap.get? a=none)∧bP c (X++([C]++H)) (X++[C]) X4 XE s₅ XH XK∧jr s₅.heap (X++([C]++H)) XH D XN ∧
  (∀ b o,(b∉X∨b=D)→s₅.heap.get? b=some o→s'.heap.get? b=some o)∧∃ h t,s'={ s₅ with heap:=h,toks:=t }
section
variable {d:Nat} {κ:Nm} {σ:List Str}
theorem ux {Xy frs:List Str} (ok:eW κ σ sc κ' Xy frs fr)
   (hI:qc d κ σ XS iter src) (G:pK κ' (Xy++frs) XS g) (T:pH d κ' (Xy++frs) ifs t)
   (hturn:∀ env it acc,mU (.ListComp XT (⟨XS,iter,ifs,0⟩::Xz) sc pos) 0 it acc env XS ifs (Yh env acc it)) (K:lQ d κ' (Xy++frs) (.ListComp XT (⟨XS,iter,ifs,0⟩::Xz) sc pos) 0 Yh F)
   (hs:∀ env x,RL iter env x=pure x)
 {Xx XA:St} (r:Rm A d) (y:Ev c κ σ env H XJ ρ Xx s) (hsrc:src ρ Xx=some (XR,n,XA))
   (hF:eT XR g t F n 0 (ib Xy.length fr ρ) [] XA=some (Yg,XN,XK))
   (fin:∀ XZ XE C D s',bP c H [] s XJ XZ XE XA→yE c H XZ XE XK XN C D s'→compPost c.M A No use Q (.ref D) C (.ok .next) s') :
   QS c.M A (UH (.ListComp XT (⟨XS,iter,ifs,0⟩::Xz) sc pos) sc env p₀ (Xg []) false (eval iter env) use) Q No s:=by
  have hcl:WY sc env=pure (iX env.cells sc.names []):=xU fun x hx hk=>y.env.cellsIn _ (ok.frees x hx hk).1 (ok.frees x hx hk).2
  refine wpAny_comprehension_free (gs:=Xz) rfl (hs env) hcl ok.kind ok.locals (br (hI r y _ _ _ hsrc) fun x sx hit=>br hit fun it X0 z=>?_)
  obtain⟨XZ,XE,W,x1,P,hW,hI2⟩:=z
  have y₁:=y.step x1
  refine wpAny_newObj_type (wpAny_newFunctionEnv ok.nocell (by intro z hz;simp at hz) (fun h₁ hns₁ hsb₁=>?_) ok.kind)
  generalize hH2:X0.heap.push { cls:=.type "list",dict:=none,data:=.seq ([]:List QM).toArray }=H2 at hns₁ hsb₁ ⊢
  have hC2:H2.objs.size=X0.heap.objs.size+1:=by rw[← hH2,Ul]
  have hDC:H2.objs.size≠X0.heap.objs.size:=by rw[hC2];exact Wq _
  have old:∀ b o,X0.heap.get? b=some o→h₁.get? b=some o:=fun b o e =>
   hsb₁.extBut b o (by rw[hC2];exact Rq (SJ (Q1 e))) (Qz _ (hH2▸Qz _ e))
  have fresh2:∀ a,X0.heap.objs.size≤a→X0.heap.get? a=none:=fun a ha=>by
   cases e:X0.heap.get? a with
   | none=>rfl
   | some o'=>exact absurd (Q1 e) (TG.mpr ha)
  have back:∀ a,X0.heap.get? a=none→XZ.heap.get? a=none:=fun a ha=>by
   cases e:XZ.heap.get? a with
   | none=>rfl
   | some o'=>rw[P.keep _ _ e] at ha;cases ha
  have hD2:X0.heap.get? X0.heap.objs.size=none:=fresh2 _ (QZ _)
  have hCn:X0.heap.get? H2.objs.size=none:=fresh2 _ (by rw[hC2];exact TR _)
  have hDl:h₁.PlainList X0.heap.objs.size #[]:=⟨_,hsb₁.extBut _ _ (Tc hDC) (Qz _ (hH2▸QI _ rfl))⟩
  generalize hC:H2.objs.size=C at hns₁ hsb₁ hDC hCn hC2 ⊢
  generalize hDD:X0.heap.objs.size=D at hDl hDC hD2 hC2 ⊢
  have P4:ez X0 { X0 with heap:=h₁,toks:=X0.toks+([]:List (Str×QM)).length }:=⟨old,_,_,rfl⟩
  refine aH (hI2 [D,C] _ P4 (by simp[hD2,hCn])) fun J I hJ=>?_
  generalize hs4:({ X0 with heap:=h₁,toks:=X0.toks+([]:List (Str×QM)).length }:QR)=X4 at P4 hJ ⊢
  have hh4:X4.heap=h₁:=by rw[← hs4]
  have PP:ez XZ X4:=P.trans P4
  have hfreshW:∀ a∈W,XZ.heap.get? a=none:=fun a ha=>(hW a ha).1
  have hWalive:∀ a∈W,(X0.heap.get? a).isSome=true:=fun a ha=>(hW a ha).2
  have hCW:C∉W:=fun h=>by have:=hWalive C h;rw[hCn] at this;cases this
  have hDW:D∉W:=fun h=>by have:=hWalive D h;rw[hD2] at this;cases this
  have notH:∀ a,XZ.heap.get? a=none→a∉H:=fun a e hm=>by
   obtain⟨o,e'⟩:=Qy.mp (y₁.inv.alive a hm);rw[e] at e';cases e'
  have hDn:XZ.heap.get? D=none:=back D hD2
  have hCn1:XZ.heap.get? C=none:=back C hCn
  have hns4:X4.heap.Ns C (fun _=>none):=by rw[hh4];exact hns₁
  have hDl4:X4.heap.PlainList D #[]:=by rw[hh4];exact hDl
  have fr:∀ a∈W++[D,C],XZ.heap.get? a=none:=fun a ha=>by
   refine cps fun G0 Yj=>?_
   rcases Qw.mp ha with h | h
   ·refine Yj ?_
    exact hfreshW a h
   ·rcases QJ.mp h with rfl | h
    ·refine Yj ?_
     exact hDn
    ·refine Yj ?_
     rw[Qu] at h;subst h;exact hCn1
  have al:∀ a∈W++[D,C],(X4.heap.get? a).isSome=true:=fun a ha=>by
   rcases Qw.mp ha with h | h
   ·refine bM (Qy.mp (hWalive a h)) fun o e=>?_
    rw[P4.keep a o e];rfl
   ·rcases QJ.mp h with rfl | h
    ·obtain⟨n,e⟩:=hDl4;rw[e];rfl
    ·rw[Qu] at h;subst h;exact Ns.live hns4
  have i₄:cH c X4.heap (W++([D,C]++H)) XE XA:=by
   have:=y₁.inv.enter (X:=W++[D,C]) PP.keep fr al
   rwa [QF] at this
  have vr4:∀ p v,VR XZ.heap H XE p v→VR X4.heap (W++([D,C]++H)) XE p v:=fun p v z=>by
   have:=z.more (X:=W++[D,C]) PP.keep fr
   rwa [QF] at this
  have E₄:=Fc (H':=W++([D,C]++H)) ok y₁ PP.keep hCn1 (Qo _ (by simp)) (fun a ha=>Qo _ (Qo _ ha)) hns4 vr4
   (cenv:={ newEnv sc C env.globals (iX env.cells sc.names []) env.qual none .none (some env) env.builtins with scope:=WH sc env }) rfl rfl rfl rfl rfl
  have hown:∀ a∈own (Xy++frs) { newEnv sc C env.globals (iX env.cells sc.names []) env.qual none .none (some env) env.builtins with scope:=WH sc env },a∈[D,C]++H:=fun a ha=>by
   refine cps fun G2 Yl=>?_
   rcases gi.mp ha with h | ⟨z,hz,hzs,rfl⟩
   ·have h:a=C:=h
    refine Yl ?_
    rw[h]
    exact Qq _ (by simp)
   ·have hz:z∈iX env.cells sc.names []:=hz
    rcases rh _ _ _ z hz with h | ⟨h1,h2⟩
    ·cases h
    ·refine Yl ?_
     exact Qo _ (y.env.cellH _ (mem_of_lookup h2) (ok.frees _ h1 rfl).1).1
  have hDo:D∉own (Xy++frs) { newEnv sc C env.globals (iX env.cells sc.names []) env.qual none .none (some env) env.builtins with scope:=WH sc env }:=fun ha=>by
   refine cps fun G3 kG3=>?_
   rcases gi.mp ha with h | ⟨z,hz,hzs,h⟩
   ·refine kG3 ?_
    exact hDC (show C=D from h.symm)
   ·have hz:z∈iX env.cells sc.names []:=hz
    rcases rh _ _ _ z hz with h' | ⟨h1,h2⟩
    ·refine kG3 ?_
     cases h'
    ·refine kG3 ?_
     exact notH D hDn (h▸(y.env.cellH _ (mem_of_lookup h2) (ok.frees _ h1 rfl).1).1)
  have hWH:∀ a∈W,a∉[D,C]++H:=fun a ha hm=>by
   refine cps fun G4 kG4=>?_
   rcases Qw.mp hm with h | h
   ·rcases QJ.mp h with rfl | h
    ·refine kG4 ?_
     exact hDW ha
    ·refine kG4 ?_
     rw[Qu] at h;subst h;exact hCW ha
   ·refine kG4 ?_
    exact notH a (hfreshW a ha) h
  have S₀:bP c (W++([D,C]++H)) (W++[D,C]) X4 XE X4 XE XA:=(bP.refl i₄).weaken (by simp) fun a ha=>by
   rw[← QF];exact Qq _ ha
  have loop:=yB (k:=0) (XT:=XT) (gens:=⟨XS,iter,ifs,0⟩::Xz) (scope:=sc) (pos:=pos) r I hWH G T (hturn { newEnv sc C env.globals (iX env.cells sc.names []) env.qual none .none (some env) env.builtins with scope:=WH sc env } it (.ref D)) hown (by simp) hDo
   (fun ρ Yg acc XN Xx XK s XJ y a h=>K r y (Qo _ (by simp)) hDo a h) (X5:=X4) (XI:=XE)
   (R:=compPost c.M A No use Q (.ref D) C) (Yg:=Yg) (XN:=XN) (XK:=XK) (fun s₅ XH S₅ E₅ A₅ s₆ tt=>fin XZ XE C D s₆ x1 ⟨hCn1,hDn,hDC,?_,W++[D],X4,s₅,XH,by simp,?_,PP,?_,?_,?_,?_,?_⟩)
   n 0 X4 XE _ [] XA S₀ E₄ ⟨[],hDl4,.nil⟩ hJ hF
  ·exact rT rfl loop (I.self hJ loop)
  ·refine cz (E₅.vars) fun m cm z1 _=>?_
   exact⟨m,Xq z1 fun o e=>tt.keep C o hCW e⟩
  ·intro h
   rcases Qw.mp h with h | h
   ·exact hCW h
   ·rw[Qu] at h;exact hDC h
  ·intro a ha
   exact fr a (by
    rcases Qw.mp ha with h | h
    ·exact Qq _ h
    ·rw[Qu] at h;subst h;exact Qo _ (by simp))
  ·have e:W++([D,C]++H)=(W++[D])++([C]++H):=by simp
   rw[e] at S₅
   refine S₅.weaken (fun a ha=>?_) fun a ha=>?_
   ·simp only[Qw,QJ,RV,or_false] at ha ⊢
    rcases ha with h | h | h
    ·exact .inl (.inl h)
    ·exact .inl (.inr h)
    ·exact .inr h
   ·simp only[Qw,QJ,RV,or_false] at ha ⊢
    rcases ha with(h | h) | h
    ·exact .inl (.inl h)
    ·exact .inl (.inr h)
    ·exact .inr (.inl h)
  ·have e:W++([D,C]++H)=(W++[D])++([C]++H):=by simp
   rw[e] at A₅
   exact A₅
  ·intro b o hb e
   refine tt.keep b o (fun hw=>?_) e
   rcases hb with h | h
   ·exact h (Qq _ hw)
   ·subst h;exact hDW hw
  ·exact tt.same
end
noncomputable def fV(src:IF)(nl:Nat)(fr:List Nat)(g:GF)(t:TF)(F:vm):EF:=fun ρ Xx=>p3 (src ρ Xx) fun XR n XA=>p3 (eT XR g t F n 0 (ib nl fr ρ) [] XA) fun _ acc XB=>(gM acc).bind fun ds=>if small ds then some (.dat (.list ds),XB) else none
theorem cG.drop(t:jc W s s')(r:cG s.heap (W++H) XJ ps vs):cG s'.heap H XJ ps vs:=by
 induction r with
 | nil=>exact .nil
 | cons a _ ih=>exact .cons (a.drop t) ih
theorem yE.out(e:yE c H XZ XE XK XN C D s')(i:cH c XZ.heap H XE XA):
  ∃ XH,bP c ([C]++H) [C] XZ XE s' XH XK∧jr s'.heap ([C]++H) XH D XN∧D∉([C]++H)++ow XH:=by
 refine cps fun G kG=>?_
 obtain⟨hC,hD,hCD,_,X,X4,s₅,XH,hDX,hCX,P,hX,S,⟨ys,pl,V⟩,k,sm⟩:=e
 have hXH:∀ a∈X,a∉[C]++H:=fun a ha hm=>by
  rcases Qw.mp hm with h | h
  ·rw[Qu] at h;exact hCX (h▸ha)
  ·obtain⟨o,e⟩:=Qy.mp (i.alive a h);rw[hX a ha] at e;cases e
 have t:jc X s₅ s':=⟨fun b o n e=>k b o (.inl n) e,sm⟩
 refine kG ?_
 refine⟨XH,bP.leaveW P.keep P.same hX (by simp) hXH S t,⟨ys,pl.at fun o e=>k _ o (.inr rfl) e,V.drop t⟩,fun hm=>?_⟩
 rcases Qw.mp hm with h | h
 ·exact hXH D hDX h
 ·exact S.inv.rep.apart D h (Qq _ hDX)
theorem yF(a:jr h H XJ D (ds.map .dat))(n:D∉H++ow XJ):DR h (H++ow XJ) (.list ds) (.ref D):=by
 refine cps fun G kG=>?_
 obtain⟨ys,⟨ep,e⟩,V⟩:=a
 obtain⟨as,R⟩:=cG.dats V
 refine kG ?_
 exact⟨_,.list (TN _ e n) rfl rfl (by simpa using R)⟩
section
variable {d:Nat} {κ:Nm} {σ:List Str}
theorem ie {Xy frs:List Str} (ok:eW κ σ sc κ' Xy frs fr)
  (hI:qc d κ σ XS iter src) (G:pK κ' (Xy++frs) XS g) (T:pH d κ' (Xy++frs) ifs t)
  (hturn:∀ env it acc,mU (.ListComp XT (⟨XS,iter,ifs,0⟩::Xz) sc pos) 0 it acc env XS ifs (Yh env acc it)) (K:lQ d κ' (Xy++frs) (.ListComp XT (⟨XS,iter,ifs,0⟩::Xz) sc pos) 0 Yh F)
  (hs:(fun env x=>RL iter env x)=fun env x=>pure x:=by rfl):bG d κ σ (.ListComp XT (⟨XS,iter,ifs,0⟩::Xz) sc pos) (fV src Xy.length fr g t F):=fun {c A env H XJ ρ Xx s} r y p XK h=>by
 refine u5 (m3 h) fun XR n XA h1 h=>?_
 refine u5 (m3 h) fun Yg acc XB h2 h=>?_
 refine aH (mO h) fun ds hds h=>?_
 refine bA (mI h) fun hsm h=>?_
 cases h
 show QS c.M A (UH (.ListComp XT (⟨XS,iter,ifs,0⟩::Xz) sc pos) sc env _ (Xg []) false (eval iter env) none) _ _ s
 refine ux ok hI G T hturn K (kY hs) r y h1 h2 fun XZ XE C D s' x1 ce=>?_
 refine cps fun G kG=>?_
 refine d9 (ce.out x1.inv) fun XH S a nD=>?_
 obtain⟨hC,hD,hCD,⟨m,hm⟩,_⟩:=id ce
 refine kG ?_
 refine⟨m,hm,fun h' hs'=>?_⟩
 have tt:jc [C] s' { s' with heap:=h' }:=oB hs'
 have hCH:∀ a∈[C],a∉H:=fun a ha hin=>by
  rw[Qu] at ha
  rw[ha] at hin
  obtain⟨o,e⟩:=Qy.mp (x1.inv.alive _ hin);rw[hC] at e;cases e
 have O:bP c H [] XZ XE { s' with heap:=h' } XH XK:=bP.leaveW (W:=[C]) (Y:=[]) (fun b o e=>e) ⟨_,_,rfl⟩ (by simpa using hC) (by simp) hCH (by simpa using S) tt
 rw[ia hds] at a
 have dr:=yF a nD
 exact⟨XH,x1.trans O,dr.mono (tt.sees (H:=H) (G:=ow XH))⟩
end
theorem yE.outO(e:yE c H XZ XE XK XN C D s')(i:cH c XZ.heap H XE XA)(hl:XN.length≤2 ^ 20):
  ∃ XH,bP c ([C]++H) [C] XZ XE s' (XH++[(D,D)]) (XK++[.list XN])∧XH.length=XK.length:=by
 revert c H XZ XE XK XN C D s' XA
 refine @si _ _ _ _ _ _ _ _ _ _ _ (bi ox (bi nI (bi kL (bi nI (bi nI (bi nI (bi nI (bi nI (bi kL nI))))))))) ?_
 generalize q1 _=c,q2 _=H,q3 _=XZ,q4 _=XE,q5 _=XK,q6 _=XN,q7 _=C,q8 _=D,q9 _=s',qe _=XA
 intro e i hl
 refine cps fun G kG=>?_
 obtain⟨hC,hD,hCD,_,X,X4,s₅,XH,hDX,hCX,P,hX,S,⟨ys,pl,V⟩,k,sm⟩:=e
 have hXH:∀ a∈X,a∉[C]++H:=fun a ha hm=>by
  rcases Qw.mp hm with h | h
  ·rw[Qu] at h;exact hCX (h▸ha)
  ·obtain⟨o,e⟩:=Qy.mp (i.alive a h);rw[hX a ha] at e;cases e
 have how:ow (XH++[(D,D)])=ow XH++[D]:=by rw[fC];rfl
 have v:=S.inv
 have hDo:D∉ow XH:=fun h=>v.rep.apart D h (Qq _ hDX)
 have see:eg s₅.heap ((X++([C]++H))++ow XH) s'.heap (([C]++H)++ow (XH++[(D,D)])):=fun b o e n=>by
  have nX:b∉X:=fun h=>n (Qq _ (Qq _ h))
  refine⟨k b o (.inl nX) e,fun hm=>?_⟩
  rw[how,← QF] at hm
  rcases Qw.mp hm with h | h
  ·rcases Qw.mp h with h | h
   ·exact n (Qq _ (Qo _ h))
   ·exact n (Qo _ h)
  ·rw[Qu] at h;exact nX (h▸hDX)
 refine aH (S.pre) fun n1 XW g1=>?_
 subst XW
 refine kG ?_
 refine⟨XE++n1,⟨by simp,⟨v.ok,⟨by have:=v.rep.len;simp at this ⊢;lia,?_,?_,fun j o e=>?_⟩,fun b o e=>k b o (.inl fun h=>?_) (v.stays b o e),fun a ha=>?_,fun a ha=>?_⟩,⟨n1++[(D,D)],by simp,fun a ha=>?_⟩,fun b o e nC na=>?_,?_⟩,v.rep.len⟩
 ·rw[how,RK]
  refine⟨v.rep.nodup,by simp,fun a ha b hb=>?_⟩
  rw[Qu] at hb;subst hb;exact fun q=>hDo (q▸ha)
 ·intro a ha hm
  rw[how] at ha
  rcases Qw.mp ha with h | h
  ·exact v.rep.apart a h (Qo _ hm)
  ·rw[Qu] at h;subst h;exact hXH _ hDX hm
 ·by_cases hj:j<XK.length
  ·rw[QD hj] at e
   refine aH (v.rep.objs j o e) fun q e1 e2=>?_
   refine⟨q,by rw[QD (by rw[v.rep.len];exact hj)];exact e1,e2.mono see fun ob z=>k _ ob (.inl fun h=>?_) z⟩
   exact v.rep.apart _ (QL.mpr ⟨q,QU e1,rfl⟩) (Qq _ h)
  ·have hl':=(Qt.mp e).1
   have hj':j=XK.length:=by simp at hl';lia
   subst hj'
   rw[QE (QZ _)] at e
   simp at e;subst e
   refine bM (pl) fun ep pe=>?_
   exact⟨(D,D),by rw[QE (by rw[v.rep.len];exact QZ _),v.rep.len];simp,rfl,hl,ys,ep,k _ _ (.inr rfl) pe,V.mono see⟩
 ·have:=v.fresh b (Qq _ (Qq _ h));rw[e] at this;cases this
 ·rw[how,← QF] at ha
  rcases Qw.mp ha with h | h
  ·refine v.fresh a ?_
   rcases Qw.mp h with h | h
   ·exact Qq _ (Qo _ h)
   ·exact Qo _ h
  ·rw[Qu] at h;subst h
   exact v.fresh _ (Qq _ (Qq _ hDX))
 ·refine bM (Qy.mp (v.alive a (Qo _ ha))) fun o e=>?_
  rw[k a o (.inl fun h=>hXH a h ha) e];rfl
 ·rw[fC] at ha
  rcases Qw.mp ha with h | h
  ·cases q:XZ.heap.get? a with
   | none=>rfl
   | some o=>have:=g1 a h;rw[P.keep a o q] at this;cases this
  ·have:a=D:=by simpa [ow] using h
   subst this;exact hD
 ·have nX:b∉X:=fun h=>by have:=hX b h;rw[e] at this;cases this
  refine k b o (.inl nX) (S.keep b o (P.keep b o e) (fun h=>?_) na)
  rcases Qw.mp h with h | h
  ·exact nX h
  ·exact nC h
 ·refine jW (P.same) fun h1 t1 e1=>?_
  refine jW (S.same) fun h2 t2 e2=>?_
  refine jW (sm) fun h3 t3 e3=>?_
  subst e1 e2 e3
  exact⟨h3,t3,rfl⟩
theorem vn {Q:QR→Prop}
  (y₁:Ev c κ σ env H XE ρ XA XZ) (hC:XZ.heap.get? C=none) (hm:∃ m,s'.heap.Ns C m) (S:bP c ([C]++H) [C] XZ XE s' XH XK) (hp:VR s'.heap ([C]++H) XH p v) (hi:σ[i]?=some x) (nd:σ.Nodup) (hk:κ.lookup x=some .local∨κ.lookup x=some .cell)
  (fin:∀ s₆,bP c H (own σ env) XZ XE s₆ XH XK→er κ σ env s₆.heap H XH (ρ.set i (some p))→Q s₆) :
  QS c.M A (TH (.Name x px) env v) (fun _ s''=>∃ m,s''.heap.Ns C m∧∀ h',SU C s''.heap h'→Q { s'' with heap:=h' }) No s':=by
 have hCH:C∉H:=fun hin=>by
  obtain⟨o,e⟩:=Qy.mp (y₁.inv.alive _ hin);rw[hC] at e;cases e
 have i₁:cH c XZ.heap H XE XA:=y₁.inv
 have keepE:∀ b,(b=env.locals∨∃ z∈env.cells,z.1∈σ∧z.2=b)→b∈H:=fun b hb=>y₁.env.own b (gi.mpr hb)
 have E':er κ σ env s'.heap ([C]++H) XH ρ:=by
  refine y₁.env.move (Qo _ y₁.env.locH) (fun z hz hs=>Qo _ (y₁.env.cellH z hz hs).1) (fun b hb o e=>?_) fun p v z=>?_
  ·refine S.keep b o e (fun h=>?_) fun h=>i₁.rep.apart b h (keepE b hb)
   rw[Qu] at h;exact hCH (h▸keepE b hb)
  ·exact S.vr (z.more (X:=[C]) (fun b o e=>e) (by simpa using hC))
 refine SP (br (iR ⟨E',S.inv⟩ hi nd hk hp) fun _ s'' z=>bA z fun S₂ E₂=>?_)
 have hCo:C∉own σ env:=fun h=>hCH (y₁.env.own C h)
 obtain⟨m,hm⟩:=hm
 refine⟨m,Xq hm fun o e=>S₂.keepH S.inv (by simp) hCo e,fun h' hs'=>?_⟩
 have tt:jc [C] s'' { s'' with heap:=h' }:=oB hs'
 have big:∀ a∈[C]++own σ env,a∈[C]++H:=fun a ha=>(Qw.mp ha).elim (Qq _) fun h=>Qo _ (y₁.env.own a h)
 have T:=(S.weaken (X':=[C]++own σ env) (fun a ha=>Qq _ ha) big).trans (S₂.weaken (X':=[C]++own σ env) (fun a ha=>Qo _ ha) big)
 refine fin _ (bP.leaveW (W:=[C]) (fun b o e=>e) ⟨_,_,rfl⟩ (by simpa using hC) y₁.env.own (by simpa using hCH) T tt) ?_
 refine E₂.move y₁.env.locH (fun z hz hs=>(y₁.env.cellH z hz hs).1) (fun b hb o e=>tt.keep b o (fun h=>?_) e) fun p v z=>z.drop tt
 rw[Qu] at h;exact hCH (h▸keepE b hb)
noncomputable def dN(i:Nat)(src:IF)(nl:Nat)(fr:List Nat)(g:GF)(t:TF)(F:vm):SF:=fun ρ Xx=>p3 (src ρ Xx) fun XR n XA=>p3 (eT XR g t F n 0 (ib nl fr ρ) [] XA) fun _ acc XB=>(gM acc).bind fun ds=>if small ds then some (.next,ρ.set i (some (.dat (.list ds))),XB) else none
noncomputable def kN(i:Nat)(src:IF)(nl:Nat)(fr:List Nat)(g:GF)(t:TF)(F:vm):SF:=fun ρ Xx=>p3 (src ρ Xx) fun XR n XA=>p3 (eT XR g t F n 0 (ib nl fr ρ) [] XA) fun _ acc XB=>if small acc then some (.next,ρ.set i (some (.ref XB.length)),XB++[.list acc]) else none
section
variable {d:Nat} {κ:Nm} {σ:List Str}
theorem xo (hn:env.scope.names=κ) (hk:env.scope.kind=.function) (hx:κ.lookup x=some .local) (hp:(px.line==pos.line)=true)
  (ho:(sc.names.any fun(n,k)=>n==x&&(k==.local||k==.cell))=false):Ua (.ListComp XT gens sc pos) (some (.Name x px)) line env=pure true:=by
 unfold Ua
 have h1:env.blockKind=.function:=by unfold W2;rw[hk];rfl
 have h2:env.kindOf x=some .local:=by unfold Sf;rw[hn];exact hx
 have hp':(px.line==(Expr.ListComp XT gens sc pos).pos.line)=true:=hp
 simp only[h1,h2,hp',ho,beq_self_eq_true,UG,Bool.not_false]
theorem iD {Xy frs:List Str} (ok:eW κ σ sc κ' Xy frs fr)
  (hi:σ[i]?=some x) (nd:σ.Nodup) (hk:κ.lookup x=some .local) (hp:(px.line==pos.line)=true) (ho:(sc.names.any fun(n,k)=>n==x&&(k==.local||k==.cell))=false)
  (hI:qc d κ σ XS iter src) (G:pK κ' (Xy++frs) XS g) (T:pH d κ' (Xy++frs) ifs t)
  (hturn:∀ env it acc,mU (.ListComp XT (⟨XS,iter,ifs,0⟩::Xz) sc pos) 0 it acc env XS ifs (Yh env acc it)) (K:lQ d κ' (Xy++frs) (.ListComp XT (⟨XS,iter,ifs,0⟩::Xz) sc pos) 0 Yh F)
  (hs:(fun env x=>RL iter env x)=fun env x=>pure x:=by rfl):io d κ σ (.Assign [.Name x px] (.ListComp XT (⟨XS,iter,ifs,0⟩::Xz) sc pos) p₂) (dN i src Xy.length fr g t F):=fun {c A env H XJ ρ Xx s} r y fl Yg XK h=>by
 refine u5 (m3 h) fun XR n XA h1 h=>?_
 refine u5 (m3 h) fun ρ₀ acc XB h2 h=>?_
 refine aH (mO h) fun ds hds h=>?_
 refine bA (mI h) fun hsm h=>?_
 cases h
 rw[Vi _ _ _ _ (xo y.env.names y.env.kind hk hp ho)]
 refine Qr (RI (Qr ?_))
 show QS _ A (do let _ ← UH (.ListComp XT (⟨XS,iter,ifs,0⟩::Xz) sc pos) sc env _ (Xg []) false (eval iter env) (some (TH (.Name x px) env))) _ _ s
 refine Qr (br (Q:=fun _ s'=>ur c κ σ env H s XJ .next (ρ.set i (some (.dat (.list ds)))) XK .next s') (ux ok hI G T hturn K (kY hs) (use:=some (TH (.Name x px) env)) r y h1 h2 fun XZ XE C D s' x1 ce=>?_) fun _ s' hq=>QB (QB hq))
 refine d9 (ce.out x1.inv) fun XH S a nD=>?_
 refine NF (id ce) fun hC hD hCD hm _=>?_
 rw[ia hds] at a
 have dr:VR s'.heap ([C]++H) XH (.dat (.list ds)) (.ref D):=yF a nD
 exact vn (y.step x1) hC hm S dr hi nd (.inl hk) fun s₆ S₆ E₆=>⟨XH,(x1.own y).trans S₆,E₆,trivial⟩
theorem xV {Xy frs:List Str} (ok:eW κ σ sc κ' Xy frs fr)
  (hi:σ[i]?=some x) (nd:σ.Nodup) (hk:κ.lookup x=some .local) (hp:(px.line==pos.line)=true) (ho:(sc.names.any fun(n,k)=>n==x&&(k==.local||k==.cell))=false)
  (hI:qc d κ σ XS iter src) (G:pK κ' (Xy++frs) XS g) (T:pH d κ' (Xy++frs) ifs t)
  (hturn:∀ env it acc,mU (.ListComp XT (⟨XS,iter,ifs,0⟩::Xz) sc pos) 0 it acc env XS ifs (Yh env acc it)) (K:lQ d κ' (Xy++frs) (.ListComp XT (⟨XS,iter,ifs,0⟩::Xz) sc pos) 0 Yh F)
  (hs:(fun env x=>RL iter env x)=fun env x=>pure x:=by rfl):io d κ σ (.Assign [.Name x px] (.ListComp XT (⟨XS,iter,ifs,0⟩::Xz) sc pos) p₂) (kN i src Xy.length fr g t F):=fun {c A env H XJ ρ Xx s} r y fl Yg XK h=>by
 refine u5 (m3 h) fun XR n XA h1 h=>?_
 refine u5 (m3 h) fun ρ₀ acc XB h2 h=>?_
 refine bA (mI h) fun hsm h=>?_
 refine iL (jp h) fun XV XW XX=>?_
 subst XV XW XX
 rw[Vi _ _ _ _ (xo y.env.names y.env.kind hk hp ho)]
 refine Qr (RI (Qr ?_))
 show QS _ A (do let _ ← UH (.ListComp XT (⟨XS,iter,ifs,0⟩::Xz) sc pos) sc env _ (Xg []) false (eval iter env) (some (TH (.Name x px) env))) _ _ s
 refine Qr (br (Q:=fun _ s'=>ur c κ σ env H s XJ .next (ρ.set i (some (.ref XB.length))) (XB++[.list acc]) .next s') (ux ok hI G T hturn K (kY hs) (use:=some (TH (.Name x px) env)) r y h1 h2 fun XZ XE C D s' x1 ce=>?_) fun _ s' hq=>QB (QB hq))
 refine aH (ce.outO x1.inv (of_decide_eq_true hsm)) fun XH S XQ=>?_
 refine NF (id ce) fun hC hD hCD hm _=>?_
 have dr:VR s'.heap ([C]++H) (XH++[(D,D)]) (.ref XB.length) (.ref D):=⟨(D,D),by rw[← XQ,QE (QZ _)];simp,rfl⟩
 exact vn (y.step x1) hC hm S dr hi nd (.inl hk) fun s₆ S₆ E₆=>⟨_,(x1.own y).trans S₆,E₆,trivial⟩
end
noncomputable def rU(f:Int→Int→Option QC)(a b:QC):Option QC:=(u8 a).bind fun a=>(u8 b).bind fun b=>f a b
theorem wp(h:rU f a b=some r):∃ i j,a=.int i∧b=.int j∧f i j=some r:=aH (mO h) fun i a h=>aH (mO h) fun j b h=>⟨i,j,u9 a,u9 b,h⟩
noncomputable def iq:=rU fun a b=>some (.int (a+b))
noncomputable def eQ:=rU fun a b=>some (.int (a - b))
noncomputable def bR:=rU fun a b=>if Builtin.Int.intBits a≤64 then some (.int (a*b)) else none
noncomputable def fu:=rU fun a b=>if b≠0∧Builtin.divisionGoesByPylong a b=false then some (.int (a.fdiv b)) else none
noncomputable def gO:=rU fun a b=>if b≠0 then some (.int (a.fmod b)) else none
noncomputable def lR(a:QC):Option QC:=(u8 a).bind fun a=>some (.int (-a))
noncomputable def aP(f:Int→Int→Bool):=rU fun a b=>some (.bool (f a b))
noncomputable def bS:QC→QC→Option QC:=fun a b=>if Q8 a=true∧Q8 b=true then some (.bool (Rg a b)) else none
noncomputable def mW:QC→QC→Option QC:=fun a b=>if Q8 a=true∧Q8 b=true then some (.bool (!Rg a b)) else none
section
variable {c:Cf} {A:R7} {H:List Addr} {s:QR}
theorem iE(k:∀ ⦃c:Cf⦄ ⦃A:R7⦄ ⦃H:List Addr⦄ ⦃s:QR⦄ ⦃i j t u⦄ ⦃r:QC⦄,f i j=some r→QS c.M A (o (.int i t) (.int j u)) (fun u s'=>ez s s'∧DR s'.heap H r u) No s):jY o (rU f):=fun c A H s v w a b r rm ra rb h=>by
 refine mH (wp h) fun i j XX e_3 h=>?_
 subst XX e_3
 refine bM (DR.int ra) fun t XW=>?_
 subst XW
 refine bM (DR.int rb) fun u XW=>?_
 subst XW
 exact k h
theorem lT[Decidable p]{a b:QC}(h:(if p then some a else none)=some b):p∧a=b:=by
 by_cases q:p
 ·rw[if_pos q] at h
  exact⟨q,Rr h⟩
 ·rw[if_neg q] at h
  exact dK h
theorem jD:jY (Ui .Add) iq:=iE fun c A H s i j t u r h=>by
 obtain rfl:=cE h
 exact PyProof.Rows.add_int ⟨.tok,[],.int _ _⟩
theorem ka:jY (Ui .Sub) eQ:=iE fun c A H s i j t u r h=>by
 obtain rfl:=cE h
 exact PyProof.Rows.sub_int ⟨.tok,[],.int _ _⟩
theorem dG:jY (Ui .Mult) bR:=iE fun c A H s i j t u r h=>by
 obtain⟨hm,rfl⟩:=lT h
 exact PyProof.Rows.mul_int ⟨.tok,[],.int _ _⟩ (IntMulOk.of_left hm)
theorem mX:jY (Ui .FloorDiv) fu:=iE fun c A H s i j t u r h=>by
 obtain⟨hm,rfl⟩:=lT h
 exact PyProof.Rows.floordiv_int hm.1 ⟨.tok,[],.int _ _⟩ (.inl hm.2)
theorem lc:jY (Ui .Mod) gO:=iE fun c A H s i j t u r h=>by
 obtain⟨hm,rfl⟩:=lT h
 exact PyProof.Rows.mod_int' hm ⟨.tok,[],.int _ _⟩
theorem sB:NL (unaryOp .USub) lR:=fun {c A H s v a r} rm ra h=>by
 refine aH (mO h) fun i e h1=>?_
 cases u9 e
 cases h1
 obtain⟨t,rfl⟩:=DR.int ra
 exact PyProof.Rows.neg_int ⟨.tok,[],.int _ _⟩
theorem bK:jY (Sb .Eq) (aP fun a b=>a==b):=iE fun c A H s i j t u r h=>by
 obtain rfl:=cE h
 exact PyProof.Rows.eq_int ⟨.refl,[],.bool _⟩
theorem ig:jY (Sb .NotEq) (aP fun a b=>a !=b):=iE fun c A H s i j t u r h=>by
 obtain rfl:=cE h
 exact PyProof.Rows.ne_int ⟨.refl,[],.bool _⟩
theorem qC:jY (Sb .Lt) (aP fun a b=>decide (a<b)):=iE fun c A H s i j t u r h=>by
 obtain rfl:=cE h
 exact PyProof.Rows.lt_int ⟨.refl,[],.bool _⟩
theorem lf:jY (Sb .Gt) (aP fun a b=>decide (b<a)):=iE fun c A H s i j t u r h=>by
 obtain rfl:=cE h
 exact PyProof.Rows.gt_int ⟨.refl,[],.bool _⟩
theorem Kz:jY (Sb .GtE) (aP fun a b=>decide (b≤a)):=iE fun c A H s i j t u r h=>by
 obtain rfl:=cE h
 exact PyProof.Rows.ge_int ⟨.refl,[],.bool _⟩
theorem Rm.c64(r:Rm A d):A.units+64<PySem.cLine:=by have:=r.cLine;lia
theorem dq:jY (Sb .Eq) bS:=fun {c A H s v w a b r} rm ra rb h=>by
 refine bA (lT h) fun hm e=>?_
 ·subst e
  obtain⟨as,ra⟩:=ra.reads
  obtain⟨bs,rb⟩:=rb.reads
  exact T3 ra rb hm.1 hm.2 rm.c64 ⟨.refl,[],.bool _⟩
theorem yf:jY (Sb .NotEq) mW:=fun {c A H s v w a b r} rm ra rb h=>by
 refine bA (lT h) fun hm e=>?_
 ·subst e
  obtain⟨as,ra⟩:=ra.reads
  obtain⟨bs,rb⟩:=rb.reads
  exact PySem.SeqAt.compareNe_shaped ra rb hm.1 hm.2 rm.c64 ⟨.refl,[],.bool _⟩
end
section
variable {κ:Nm} {σ:List Str}
theorem tZ{Xx:St}(y:Ev c κ σ env H XJ ρ Xx s)(hi:σ[i]?=some x)(nd:σ.Nodup)(hk:κ.lookup x=some .local)(r:VR s.heap H XJ p v):
  QS M A (W7 env x v) (fun _ s'=>bP c H [env.locals] s XJ s' XJ Xx∧er κ σ env s'.heap H XJ (ρ.set i (some p))) No s:=by
 refine mH (y.env.vars) fun m cm hn hc f=>?_
 have other:∀ j z,σ[j]?=some z→j≠i→z≠x:=fun j z e ne q=>by
  subst q
  exact ne (by
   obtain⟨l1,e1⟩:=Qt.mp e
   obtain⟨l2,e2⟩:=Qt.mp hi
   exact(Sj nd).mp (e1.trans e2.symm))
 have hkind:env.kindOf x=some .local:=by unfold Sf;rw[y.env.names];exact hk
 refine Vf hkind hn (fun h' hn' hs'=>?_) (by rw[y.env.kind];rfl)
 have k:∀ b o,b∉[env.locals]→s.heap.get? b=some o→h'.get? b=some o:=fun b o n e=>hs'.extBut b o (by simpa using n) e
 have S:bP c H [env.locals] s XJ { s with heap:=h',toks:=s.toks+1 } XJ Xx:=y.inv.touchStp (by simpa using y.env.locH) k (by simpa using Ns.live hn')
 refine⟨S,y.env.names,y.env.kind,y.env.glob,y.env.blt,y.env.locH,y.env.cellH,y.env.cellsIn,y.env.apart,by rw[SY];exact y.env.len,_,cm,hn',fun n a hs e=>?_,fun j z q ej eq=>?_⟩
 ·exact IsCell.at_ (hc n a hs e) fun o eo=>k a o (by simpa using (y.env.cellH _ (mem_of_lookup e) hs).2) eo
 ·by_cases hj:j=i
  ·subst hj
   rw[hi] at ej;cases ej
   have:q=p:=by
    have hlt:j<ρ.length:=by rw[y.env.len];exact(Qt.mp hi).1
    rw[RW hlt] at eq;cases eq;rfl
   subst this
   exact⟨v,S.vr r,.inl ⟨hk,by simp⟩⟩
  ·rw[SG (Tc hj)] at eq
   refine aH (f j z q ej eq) fun u u1 u2=>?_
   refine⟨u,S.vr u1,?_⟩
   rw[if_neg (other j z ej hj)]
   exact u2
theorem eM(hi:σ[i]?=some x:=by rfl)(nd:σ.Nodup:=by decide +kernel)(hk:κ.lookup x=some .local:=by rfl):pK κ σ (.Name x pos) (bZ i):=fun _ _ _ _ _ _ _ _ _ _ hh y hv Yg h=>by
 obtain rfl:=cE h
 exact SP (tZ y hi nd hk hv)
noncomputable def PC(k:Option RT):Bool:=k==some .local
theorem mY(N:gN PC κ σ es is)(nd:σ.Nodup:=by decide +kernel):pK κ σ (.Tuple es k pos) (eG is):=fun {c A env H XJ ρ Xx s p v} hh y hv Yg h=>by
 refine cps fun G2 Yl=>?_
 refine aH (mO h) fun ds e h1=>?_
 cases GN e
 ·refine iM (DR.tuple hv) fun a vs as e_3 T R=>?_
  subst e_3
  have V:cG s.heap H XJ (ds.map .dat) vs:=dj R
  have hl:is.length=vs.length:=(k0 h1).trans V.length
  refine Yl ?_
  refine Uj hh T (by rw[(N.len env).1,hl];simp) (N.len env).2 fun h' he=>?_
  have P:ez s { s with heap:=h' }:=⟨fun b o e=>he b o (Rq (Q1 e)) e,_,_,rfl⟩
  have S:=P.stp y.inv
  refine br (mx (fun y=>(bP.refl y.inv).weaken (by simp) (by simpa using y.env.locH)) (fun hi hk y a=>tZ y hi nd (eq_of_beq hk) a) N (y.step S) (S.vrs V) h1) fun _ s' z=>bA z fun S₂ E₂=>⟨(S.weaken (by simp) (by simpa using y.env.locH)).trans S₂,E₂⟩
end
section
variable {d:Nat} {κ:Nm} {σ:List Str}
theorem dk(B:bG d κ σ XT f):
  lQ d κ σ e k (fun env acc it=>(eval XT env >>=fun x=>call (.builtin "list.append") [acc,x] >>=fun _=>pure ()) >>=fun _=>again (.compLoop e k it acc env)) (cq f) :=
 fun r y hD hDo a h=>DH r B hD hDo y a h
end
section
variable {d:Nat} {κ:Nm} {σ:List Str}
theorem sC (hg:gens[k+1]?=some ⟨XS,iter,ifs,0⟩)
  (hI:qc d κ σ XS iter src) (G:pK κ σ XS g) (T:pH d κ σ ifs t) (hturn:∀ env it acc,mU (.ListComp XT gens sc pos) (k+1) it acc env XS ifs (Yh env acc it)) (K:lQ d κ σ (.ListComp XT gens sc pos) (k+1) Yh F)
  (hs:(fun env x=>RL iter env x)=fun env x=>pure x:=by rfl) :
  lQ d κ σ (.ListComp XT gens sc pos) k (fun env acc it=>eval iter env >>=fun x=>Su iter.pos >>=fun _=>RL iter env x >>=fun x=>S5 [x] (Wl x) >>=fun i =>
   runOwn (.compStart (.ListComp XT gens sc pos) (k+1) i acc env) env >>=fun _=>again (.compLoop (.ListComp XT gens sc pos) k it acc env)) (oH src g t F):=fun {c A env H XJ ρ Yg acc XN Xx XK s D it} r y hD hDo a h=>by
 refine u5 (m3 h) fun XR n XA hsrc h=>?_
 refine Qr (br (hI r y _ _ _ hsrc) fun x sx hit=>Qr (RI (Qr (wpAny_of_eq (kY hs env x) (Qr (Rd (br hit fun it' X0 ⟨XZ,XE,W,x1,P,hW,hI2⟩=>Qr ?_)))))))
 refine aH (hI2 [] X0 .refl (by simp)) fun J I hJ=>?_
 have y₁:=y.step x1
 have a₁:=a.stp x1 y.inv hD (by simp)
 have fresh:∀ b∈W,XZ.heap.get? b=none:=fun b hb=>(hW b hb).1
 have hWH:∀ b∈W,b∉H:=fun b hb hm=>by
  obtain⟨o,e⟩:=Qy.mp (y₁.inv.alive b hm);rw[fresh b hb] at e;cases e
 have i₂:cH c X0.heap (W++H) XE XA:=y₁.inv.enter P.keep fresh fun b hb=>(hW b hb).2
 have E₂:er κ σ env X0.heap (W++H) XE ρ:=y₁.env.move (Qo _ y₁.env.locH) (fun z hz hs=>Qo _ (y₁.env.cellH z hz hs).1) (fun b _ o e=>P.keep b o e) fun p v z=>z.more P.keep fresh
 have big:∀ b∈[D,env.locals],b∈H:=fun b hb=>by
  rcases QJ.mp hb with rfl | hb
  ·exact hD
  ·rw[Qu] at hb;subst hb;exact y.env.locH
 have S₀:bP c (W++H) (W++[D,env.locals]) X0 XE X0 XE XA:=(bP.refl i₂).weaken (by simp) fun b hb=>(Qw.mp hb).elim (Qq _) fun h=>Qo _ (big b h)
 have a₂:jr X0.heap (W++H) XE D acc:=by
  refine aH (a₁) fun ys pl V=>?_
  exact⟨ys,pl.at fun o e=>P.keep _ o e,V.more P.keep fresh⟩
 have hDW:D∉W:=fun h=>hWH D h hD
 have loop:=yB (k:=k+1) (XT:=XT) (gens:=gens) (scope:=sc) (pos:=pos) r I hWH G T (hturn env it' (.ref D)) y.env.own hD hDo
  (fun ρ Yg acc XN Xx XK s XJ y a h=>K r y (Qo _ hD) hDo a h) (X5:=X0) (XI:=XE)
  (R:=fun r s'=>match r with
   | .ok f=>QS c.M A (again (.compLoop (.ListComp XT gens sc pos) k it (.ref D) env)) (fun fin s'=>fin=.again (.compLoop (.ListComp XT gens sc pos) k it (.ref D) env)∧∃ XM,Cv c κ σ env H D s XJ XM Yg XN XK s') No s'
   | .error e=>cameBackBy c.M A env No e s') (Yg:=Yg) (XN:=XN) (XK:=XK) (fun X3 XG S₃ E₃ A₃ X4 tt=>QB ⟨rfl,XG,?_,?_,?_⟩)
  n 0 X0 XE ρ acc XA S₀ E₂ a₂ hJ h
 ·exact wpAny_runOwn (rT hg loop (I.self hJ loop))
 ·exact(x1.weaken (by simp) big).trans (bP.leaveW P.keep P.same fresh big hWH S₃ tt)
 ·exact E₃.move y.env.locH (fun z hz hs=>(y.env.cellH z hz hs).1) (fun b hb o e=>tt.keep b o (fun hw=>hWH b hw (y.env.own b (gi.mpr (hb.imp_right fun z1=>d9 z1 fun z h1 h2 h3=>⟨z,h1,h2,h3⟩)))) e) fun p v z=>z.drop tt
 ·refine aH (A₃) fun ys pl V=>?_
  exact⟨ys,pl.at fun o e=>tt.keep _ o hDW e,V.drop tt⟩
end
section
variable {d:Nat} {κ:Nm} {σ:List Str}
theorem pN(hg:∀ P,nsIn (KF P) Q9 x=some none)(hb:Rp x=some v)(hx:x≠("__name__":Str):=by decide)(hk:κ.lookup x=some .globalImplicit:=by kernel_rfl)(hd:(x==("__debug__":Str))=false:=by kernel_rfl):
  bG d κ σ (.Name x pos) (B9 v):=fun {c A env H XJ ρ Xx s} _ y p XK h=>by
 refine bA (dg h) fun XV XW=>?_
 subst XV XW
 refine TP y.env.kind (by unfold Sf;rw[y.env.names];exact hk) ?_ hd
 unfold WP
 rw[y.env.glob,y.env.blt]
 have hK:=y.inv.ok.hK
 refine aH (y.inv.ok.blt) fun mb n e=>?_
 refine Qr ((VT y.inv.KIn (hK▸hg c.P)).here ?_)
 refine Qr (wpAny_nsGet (n.keeps y.inv.stays) ?_)
 rw[e x hx,hb]
 exact QB (.pst y.inv .refl rfl)
theorem oI {Xx XA:St} {id:String}
  (hx:∀ P,nsIn (KF P) Q9 x=some none) (hb:Rp x=some (.builtin id)) (hp:pF es) (r:Rm A d) (y:Ev c κ σ env H XJ ρ Xx s) (L:fL d κ σ es g) (hg:g ρ Xx=some (ps,XA))
  (h:∀ vs XZ XE,bP c H [] s XJ XZ XE XA→cG XZ.heap H XE ps vs→QS c.M A (call (.builtin id) vs []) Q No XZ) (hxn:x≠("__name__":Str):=by decide) (hk:κ.lookup x=some .globalImplicit:=by kernel_rfl) (hd:(x==("__debug__":Str))=false:=by kernel_rfl) :
  QS c.M A (eval (.Call (.Name x p₀) es [] pos) env) Q No s:=by
 show QS c.M A (eval (.Name x p₀) env >>=fun f=>TQ pos f [] (TE pos (R8 es env)) []) _ _ _
 refine Qr (br (pN hx hb hxn hk hd r y _ _ rfl) fun v XZ z=>aH z fun XE x1 q1=>?_)
 have q1:v=.builtin id:=q1
 subst q1
 refine Wn (sr (hp env)) (jm (sw (hp env)) (br (L r (y.step x1) _ _ hg pos) fun vs X0 z=>aH z fun XF x2 q2=>?_))
 exact h vs X0 XF (x1.trans x2) q2
theorem kB {Xx XA:St}
  (hx:∀ P,nsIn (KF P) Q9 x=some none) (hb:Rp x=some (.type T)) (hp:pF es) (r:Rm A d) (y:Ev c κ σ env H XJ ρ Xx s) (L:fL d κ σ es g) (hg:g ρ Xx=some (ps,XA))
  (h:∀ vs XZ XE,bP c H [] s XJ XZ XE XA→cG XZ.heap H XE ps vs→QS c.M A (call (.type T) vs []) Q No XZ) (hxn:x≠("__name__":Str):=by decide) (hk:κ.lookup x=some .globalImplicit:=by kernel_rfl) (hd:(x==("__debug__":Str))=false:=by kernel_rfl) :
  QS c.M A (eval (.Call (.Name x p₀) es [] pos) env) Q No s:=by
 show QS c.M A (eval (.Name x p₀) env >>=fun f=>TQ pos f [] (TE pos (R8 es env)) []) _ _ _
 refine Qr (br (pN hx hb hxn hk hd r y _ _ rfl) fun v XZ z=>aH z fun XE x1 q1=>?_)
 have q1:v=.type T:=q1
 subst q1
 refine VG (sr (hp env)) (jm (sw (hp env)) (br (L r (y.step x1) _ _ hg pos) fun vs X0 z=>aH z fun XF x2 q2=>?_))
 exact h vs X0 XF (x1.trans x2) q2
noncomputable def fh(G:List QC→Option QC)(g:LF):EF:=fun ρ Xx=>pP (g ρ Xx) fun ps XA=>(gM ps).bind fun ds=>(G ds).map fun r=>(.dat r,XA)
noncomputable def vo(f:QM)(G:List QC→Option QC):Prop:=∀ ⦃c:Cf⦄ ⦃A:R7⦄ ⦃H:List Addr⦄ ⦃s:QR⦄ ⦃vs:List QM⦄ ⦃ds:List QC⦄ ⦃r:QC⦄ ⦃as:List Addr⦄,Rm A 0→Rf (Tv s.heap H) vs ds as→(∀ a∈H,(s.heap.get? a).isSome=true)→G ds=some r →
 QS c.M A (call f vs []) (fun u s'=>ez s s'∧DR s'.heap H r u) No s
theorem iY {id:String} (o:vo (.builtin id) G) (L:fL d κ σ es g) (hx:kw.lookup x=some none:=by kernel_rfl) (hb:Rp x=some (.builtin id):=by decide +kernel) (hp:gy es=true:=by rfl)
  (hxn:x≠("__name__":Str):=by decide) (hk:κ.lookup x=some .globalImplicit:=by kernel_rfl) (hd:(x==("__debug__":Str))=false:=by kernel_rfl):bG d κ σ (.Call (.Name x p₀) es [] pos) (fh G g):=fun {c A env H XJ ρ Xx s} r y p XK h=>by
 refine cz (mP h) fun ps XA hg h=>?_
 refine aH (mO h) fun ds hds h=>?_
 refine aH (Qx.mp h) fun q hq e=>?_
 cases e
 refine oI (gT hx) hb (eF hp) r y L hg (fun vs XZ XE x1 V=>?_) hxn hk hd
 rw[ia hds] at V
 refine bM (cG.dats V) fun as R=>?_
 exact br (o (r.le (Ry _)) R x1.inv.live hq) fun u t z=>bA z fun z1 z2=>.next x1 (.pst x1.inv z1 z2)
theorem Fd (o:vo (.type T) G) (L:fL d κ σ es g) (hx:kw.lookup x=some none:=by kernel_rfl) (hb:Rp x=some (.type T):=by decide +kernel) (hp:gy es=true:=by rfl)
  (hxn:x≠("__name__":Str):=by decide) (hk:κ.lookup x=some .globalImplicit:=by kernel_rfl) (hd:(x==("__debug__":Str))=false:=by kernel_rfl):bG d κ σ (.Call (.Name x p₀) es [] pos) (fh G g):=fun {c A env H XJ ρ Xx s} r y p XK h=>by
 refine cz (mP h) fun ps XA hg h=>?_
 refine aH (mO h) fun ds hds h=>?_
 refine aH (Qx.mp h) fun q hq e=>?_
 cases e
 refine kB (gT hx) hb (eF hp) r y L hg (fun vs XZ XE x1 V=>?_) hxn hk hd
 rw[ia hds] at V
 refine bM (cG.dats V) fun as R=>?_
 exact br (o (r.le (Ry _)) R x1.inv.live hq) fun u t z=>bA z fun z1 z2=>.next x1 (.pst x1.inv z1 z2)
noncomputable def Fe(k:QC→Option QC):List QC→Option QC
 | a::l=>(match l with
  | []=>k a
  | _::_=>none)
 | []=>none
noncomputable def KA(k:QC→QC→Option QC):List QC→Option QC
 | a::l=>Fe (k a) l
 | []=>none
theorem yG(h:Fe k ds=some r):∃ a,ds=[a]∧k a=some r:=by
 cases ds with
 | nil=>exact dK h
 | cons a l =>
  cases l with
  | nil=>exact⟨a,rfl,h⟩
  | cons b l=>exact dK h
theorem Ff(h:KA k ds=some r):∃ a b,ds=[a,b]∧k a b=some r:=by
 cases ds with
 | nil=>exact dK h
 | cons a l =>
  refine aH (yG h) fun b e q=>?_
  exact⟨a,b,by rw[e],q⟩
noncomputable def Fg(f:Int→QC):=Fe fun a=>rU (fun x _=>some (f x)) a a
noncomputable def Fh(f:Int→Int→QC):=KA (rU fun a b=>some (f a b))
theorem wq{d:QC}{G:Prop}(R:Rf h vs (d::ds) as)(k:∀ v ws a bs,Reads h v d a→Rf h ws ds bs→vs=v::ws→G):G:=by
 cases R with
 | cons r R=>exact k _ _ _ _ r R rfl
theorem DI{G:Prop}(R:Rf h vs [] as)(k:vs=[]→G):G:=by
 cases R
 exact k rfl
theorem yH(R:Reads h v (.int a) as):∃ t,v=.int a t:=by
 cases R
 exact⟨_,rfl⟩
theorem GS(k:∀ ⦃c:Cf⦄ ⦃A:R7⦄ ⦃H:List Addr⦄ ⦃s:QR⦄ (a:Int) (t:Nat),Rm A 0→QS c.M A (call v [.int a t] []) (fun u s'=>ez s s'∧DR s'.heap H (f a) u) No s):vo v (Fg f):=fun c A H s vs ds r as rm R hl h =>
 aH (yG h) fun a e q=>mH (wp q) fun i j e1 _ q=>by
  subst e e1
  cases q
  refine wq R fun v ws a bs r R e=>DI R fun f=>bM (yH r) fun t g=>?_
  subst f g e
  exact k _ _ rm
theorem GU(k:∀ ⦃c:Cf⦄ ⦃A:R7⦄ ⦃H:List Addr⦄ ⦃s:QR⦄ (a:Int) (t:Nat) (b:Int) (u:Nat),Rm A 0→QS c.M A (call v [.int a t,.int b u] []) (fun u s'=>ez s s'∧DR s'.heap H (f a b) u) No s):vo v (Fh f):=fun c A H s vs ds r as rm R hl h =>
 cz (Ff h) fun a b e q=>mH (wp q) fun i j e1 e2 q=>by
  subst e e1 e2
  cases q
  refine wq R fun v ws a bs r R e=>wq R fun v' ws a bs r' R e'=>DI R fun f=>bM (yH r) fun t g=>bM (yH r') fun t' g'=>?_
  subst f g g' e' e
  exact k _ _ _ _ rm
noncomputable def jZ:=Fg fun a=>.int (if a<0 then -a else a)
theorem oe:vo (.builtin "abs") jZ:=GS fun c A H s a t rm=>call_abs_int fun u tk=>⟨.tok,[],.int _ _⟩
end
noncomputable def e6(a:Int)(n:Nat):vk:=fun _ j=>some (if j<n then some (.dat (.int (a+j))) else none)
noncomputable def Bi(ps:List PV):Option (Int×Nat):=match ot ps with
 | some p=>(mM p).bind fun b=>if 0≤b∧b≤2 ^ 20 then some (0,b.toNat) else none
 | none=>(Du ps).bind fun x=>(mM x.1).bind fun a=>(mM x.2).bind fun b=>if -(2 ^ 20)≤a∧a≤b∧b≤2 ^ 19∧b - a≤2 ^ 20 then some (a,(b - a).toNat) else none
theorem DJ(h:Bi ps=some r):(∃ b,ps=[.dat (.int b)]∧(if 0≤b∧b≤2 ^ 20 then some ((0:Int),b.toNat) else none)=some r)∨∃ a b,ps=[.dat (.int a),.dat (.int b)]∧(if -(2 ^ 20)≤a∧a≤b∧b≤2 ^ 19∧b - a≤2 ^ 20 then some (a,(b - a).toNat) else none)=some r:=by
 rcases ps with _ | ⟨p,_ | ⟨q,_ | _⟩⟩
 ·exact dK h
 ·refine aH (mO h) fun b e h=>?_
  exact .inl ⟨b,tx e▸rfl,h⟩
 ·refine aH (mO h) fun a e h=>?_
  refine aH (mO h) fun b e2 h=>?_
  exact .inr ⟨a,b,tx e▸tx e2▸rfl,h⟩
 ·exact dK h
noncomputable def kb(g:LF):IF:=fun ρ Xx=>pP (g ρ Xx) fun ps XA=>(Bi ps).map fun q=>(e6 q.1 q.2,q.2,XA)
theorem Ch:qb c ([I]++H) XS (e6 a n) (.ref I) [I] (fun j _ s=>j≤n∧IsRangeIter s.heap I (a+(j:Nat)) ((n:Int) - (j:Nat)) 1) where
 next:=fun {A s XJ Xx j r} hh i hJ hc=>by
  obtain⟨hjn,hi⟩:=hJ
  unfold e6 at hc
  by_cases hj:j<n
  ·rw[if_pos hj] at hc
   obtain rfl:=cE hc
   refine wpAny_pyNext_range_item hi (by lia) fun h' hi' hs'=>⟨_,rfl,?_⟩
   have t:jc [I] s { s with heap:=h',toks:=s.toks+1 }:=⟨fun b o n e=>hs'.extBut b o (by simpa using n) e,_,_,rfl⟩
   refine iC (T:="range_iterator") hi' rfl (by decide) ⟨t,by simpa using (by rw[hi'];rfl),⟨[],.int _ _⟩,hj,?_⟩
   have e1:a+((j+1:Nat):Int)=a+(j:Int)+1:=by push_cast;lia
   have e2:(n:Int) - ((j+1:Nat):Int)=(n:Int) - (j:Int) - 1:=by push_cast;lia
   rw[e1,e2];exact hi'
  ·rw[if_neg hj] at hc
   obtain rfl:=cE hc
   exact wpAny_pyNext_range_end hh hi (by lia) fun h' he=>⟨rfl,qB he⟩
 move:=fun {X s s' XJ XM Xx XK j} hX i S hJ=>⟨hJ.1,S.keepH i (by simp) (fun hm=>hX _ hm (by simp)) hJ.2⟩
 self:=fun hJ q=>wpAny_pyIter_rangeiter hJ.2 q
theorem vp{n:Nat}(hr:IsRange s.heap r a b 1 t u v)(hn:(n:Int)=b - a)(ha : -(2 ^ 20)≤a)(hb:b≤2 ^ 21):
  QS c.M A (Wl (.ref r)) (fun it X0=>∃ W,ez s X0∧(∀ a∈W,s.heap.get? a=none∧(X0.heap.get? a).isSome=true) ∧
   ∀ (Y:List Addr) (X3:QR),ez X0 X3→(∀ a∈Y,X0.heap.get? a=none)→∃ J,qb c (W++(Y++H)) XS (e6 a n) it W J∧J 0 XJ X3) No s:=by
 have hsz:UU a b 1=n:=by
  rw[rangeSize_one]
  split<;>lia
 refine wpAny_pyIter_range hr ?_ ⟨[s.heap.objs.size],ip,fun x hx=>?_,fun Y X3 P hY=>⟨_,Ch,Ry _,?_⟩⟩
 ·unfold Xu
  rw[hsz]
  unfold WJ
  simp only[Q4,SA,decide_eq_true_eq]
  have:(n:Int)≤2 ^ 22:=by lia
  refine⟨⟨⟨⟨⟨by lia,by lia⟩,⟨by lia,by exact RC (by assumption) (by decide)⟩⟩,⟨by decide,by decide⟩⟩,⟨by exact RE _,by lia⟩⟩,.inr ?_⟩
  rw[if_pos (by decide)]
  simp only[Q4,decide_eq_true_eq]
  lia
 ·have hx:x=s.heap.objs.size:=by simpa using hx
  subst hx
  exact⟨dZ,by rw[QI _ rfl];rfl⟩
 ·have:=P.keep _ _ (QI (h:=s.heap) (o:={ cls:=.type "range_iterator",data:=.fields #[rawInt a,rawInt (UU a b 1),rawInt 1] }) rfl)
  rw[hsz] at this
  simpa using this
section
variable {d:Nat} {κ:Nm} {σ:List Str}
theorem ri(L:fL d κ σ es g)(hx:kw.lookup ("range":Str)=some none:=by kernel_rfl)(hb:Rp "range"=some (.type "range"):=by decide +kernel)(hp:gy es=true:=by rfl)(hk:κ.lookup ("range":Str)=some .globalImplicit:=by kernel_rfl):
  qc d κ σ XS (.Call (.Name "range" p₀) es [] pos) (kb g):=fun {c A env H XJ ρ Xx s} r y XR n XK h=>by
 refine cz (mP h) fun ps XA hg h=>?_
 refine aH (Qx.mp h) fun q hq e=>?_
 cases e
 refine kB (gT hx) hb (eF hp) r y L hg (fun vs XZ XE x1 V=>?_) (by decide) hk (by decide)
 rcases DJ hq with⟨b,e,hq⟩ | ⟨a,b,e,hq⟩
 ·subst e
  refine bA (mI hq) fun hbd hq=>?_
  obtain rfl:=cE hq
  refine V.e1 fun _ v e_=>?_
  subst e_
  refine bM (DR.int v) fun t XW=>?_
  subst XW
  refine call_range_1 ?_
  refine br (vp (H:=H) (XS:=XS) (XJ:=XE) (a:=0) (b:=b) (Xr _ _ _ _ _ _ _) (by show((b.toNat:Nat):Int)=b - 0;exact zk) (by decide) zF) fun it X0 z=>?_
  refine d9 (z) fun W P hW hI=>?_
  exact⟨_,XE,W,x1.trans (ez.stp ⟨fun b o e=>Qz _ e,_,_,rfl⟩ x1.inv),P,hW,hI⟩
 ·subst e
  refine bA (mI hq) fun hbd hq=>?_
  obtain rfl:=cE hq
  refine V.e2 fun _ _ v v2 e_=>?_
  subst e_
  refine bM (DR.int v) fun t XW=>?_
  subst XW
  refine bM (DR.int v2) fun t2 XW=>?_
  subst XW
  refine call_range_2 ?_
  refine br (vp (H:=H) (XS:=XS) (XJ:=XE) (n:=(b - a).toNat) (a:=a) (b:=b) (Xr _ _ _ _ _ _ _) (by lia) hbd.1 (by lia)) fun it X0 z=>?_
  refine d9 (z) fun W P hW hI=>?_
  exact⟨_,XE,W,x1.trans (ez.stp ⟨fun b o e=>Qz _ e,_,_,rfl⟩ x1.inv),P,hW,hI⟩
end
noncomputable def vq(f g:EF):EF:=fun ρ Xx=>dh mM (f ρ Xx) fun k XA=>dh jX (g ρ XA) fun i XB=>d7 qz XB[i]? fun l=>some (.dat (.bool (gu l k).isSome),XB)
noncomputable def Ci(fo fi:EF):SF:=fun ρ Xx=>dh jX (fo ρ Xx) fun i XA=>dh mM (fi ρ XA) fun k XB=>d7 qz XB[i]? fun l=>if(gu l k).isSome then some (.next,ρ,XB.set i (.idict (qd l k))) else none
section
variable {d:Nat} {κ:Nm} {σ:List Str}
theorem KB{Xx:St}{i:Nat}(v:cH c s.heap H XJ Xx)(ha:XJ[i]?=some a)(e:Xx[i]?=some (.idict l)):
  QS c.M A (Sb .In (.int k t) (.ref a.1)) (fun u s'=>u=.bool (gu l k).isSome∧ez s s') No s:=by
 refine cps fun G kG=>?_
 obtain⟨hq,hl,lo,m,g,R⟩:=iV v ha e
 refine kG ?_
 rw[hq]
 refine PySem.wpAny_in_of (knd:=Q5 c.prog c.w) jB lo g.mapOf ⟨?_,.tok⟩
 have z:=R.get k
 cases q:gu l k with
 | none =>
  rw[q] at z
  have z:V3 m k=none:=z
  rw[z];rfl
 | some u=>rw[q] at z;obtain⟨w,w1,_⟩:=z;rw[w1];rfl
theorem HQ{Xx:St}(h:vq f g ρ Xx=some (p,XK)):∃ k XA i l,f ρ Xx=some (.dat (.int k),XA)∧g ρ XA=some (.ref i,XK)∧XK[i]?=some (.idict l)∧p=.dat (.bool (gu l k).isSome):=by
 refine cz (mN h) fun k XA h1 h=>?_
 refine cz (mR h) fun i XB h2 h=>?_
 refine aH (mK h) fun l e h=>?_
 refine bA (dg h) fun XV XW=>?_
 subst XV XW
 exact⟨k,XA,i,l,h1,h2,e,rfl⟩
theorem Bj(XZ:bG d κ σ e₁ f)(X0:bG d κ σ e₂ g)(hm:Th .In e₂=false:=by kernel_rfl):gL d κ σ (.Compare e₁ [.In] [e₂] pos) (ao (vq f g)):=fun _ _ _ _ _ _ _ _ r y b XK h=>by
 refine cz (mB h) fun q XA h' h=>?_
 refine cps fun G kG=>?_
 cases h
 refine GG (HQ h') fun k XA i l h1 h2 e hq=>?_
 cases hq
 refine kG ?_
 refine S2 (br (XZ r y _ _ h1) fun v Yb z=>aH z fun XE x1 r1=>br (X0 r (y.step x1) _ _ h2) fun w Yc z=>aH z fun XF x2 r2=>?_) hm
 refine bM (DR.int r1) fun t XW=>?_
 subst XW
 refine aH (r2.ref) fun a ha XX=>?_
 subst XX
 refine br (KB x2.inv ha e) fun u t₃ z=>bA z fun q P=>?_
 subst q
 exact Q3 ⟨rfl,XF,(x1.trans x2).trans (P.stp x2.inv)⟩
theorem Cj{c:Cf}(h:QS c.M A (eval o env) (fun ov XZ=>QS c.M A (eval i env) (fun iv X0=>QS c.M A (delItem ov iv) Q No X0) No XZ) No s):
  QS c.M A (delete (.Subscript o i pos) env) Q No s:=fun Γ p hΓ=>by
 have e:delete (.Subscript o i pos) env=(do
   let ov ← eval o env
   let iv ← S5 [ov] (eval i env)
   Su pos
   S5 [ov,iv] (delItem ov iv)
   release [ov,iv] []):=rfl
 rw[e]
 simp only[Xf,Sem.wp_holding,Sem.wp_cmd_standAt,Sem.wp_release]
 exact Sem.wp_mono _ Γ _ (fun v p₁ XZ h₁=>Sem.wp_mono _ Γ _ (fun ov _ X0 h₂=>h₂ Γ _ hΓ) (fun _ _ _ h'=>h') _ _ (h₁ Γ p₁ hΓ)) (fun _ _ _ h'=>h') _ _ (h Γ _ hΓ)
theorem Fi{o i:Expr}(XZ:bG d κ σ o fo)(X0:bG d κ σ i fi):io d κ σ (.Delete [.Subscript o i p₁] p₂) (Ci fo fi):=fun {c A env H XJ ρ Xx s} r y fl Yg XK h=>by
 refine cz (mR h) fun n XA h1 h=>?_
 refine cz (mN h) fun k XB h2 h=>?_
 refine aH (mK h) fun l e h=>?_
 refine bA (mI h) fun hs h=>?_
 refine iL (jp h) fun XV XW XX=>?_
 subst XV XW XX
 refine wpAny_Delete (wpAny_deleteEach_cons (Cj (br (XZ r y _ _ h1) fun v Yb z=>aH z fun XE x1 r1=>br (X0 r (y.step x1) _ _ h2) fun w Yc z=>aH z fun XF x2 r2=>?_)))
 refine cps fun G kG=>?_
 refine bM (DR.int r2) fun t XW=>?_
 subst XW
 refine aH ((x2.vr r1).ref) fun a ha XX=>?_
 subst XX
 obtain⟨hq,hl,lo,m,g,R⟩:=iV x2.inv ha e
 have z:=R.get k
 have there:(V3 m k).isSome=true:=by
  refine bM (Qy.mp hs) fun u hu=>?_
  rw[hu] at z
  refine aH (z) fun w w1 _=>?_
  rw[w1];rfl
 refine kG ?_
 rw[hq]
 refine wpAny_delItem_slot g.typeIs (by decide) Us (U1 Us g.typeIs PySem.F.entry_dict_delitem (PySem.F.args_dict_delitem_2 _ _) (meets_dict_delitem_pairs (knd:=Q5 c.prog c.w) (d:=a.2) jB) ⟨m,g,by rw[← R.len];exact QH hl (by decide),there,fun h' g' hs'=>?_⟩)
 have S:=x2.inv.updStp (t:=Yc.toks+1) ha hs'.extBut (rd hq (QH (yA _ _) hl) lo g' ((R.imp fun p v x=>x.upd ha hs'.extBut).del (oF g)))
 have T:=(x1.trans x2).trans S
 exact wpAny_deleteEach_nil ⟨_,T.own y,(y.step T).env,trivial⟩
end
noncomputable def oJ:List QC→Option (List Int)
 | []=>some []
 | d::r=>(u8 d).bind fun i=>(oJ r).map (i::·)
theorem Fj:oJ (d::r)=(u8 d).bind fun i=>(oJ r).map (i::·):=rfl
noncomputable def yI:QC→Option Lf
 | .none=>none
 | .bool _=>none
 | .int i=>some (.inr (.inl i))
 | .str x=>some (.inl x)
 | .list _=>none
 | .tuple xs=>(oJ xs).map fun l=>.inr (.inr l)
 | .dict _=>none
noncomputable def tC:List QC→Option (List Lf)
 | []=>some []
 | d::r=>(yI d).bind fun x=>(tC r).map (x::·)
theorem HR:tC (d::r)=(yI d).bind fun x=>(tC r).map (x::·):=rfl
noncomputable def tE(d:QC):Option (List Lf):=(GH d).bind fun xs=>(tC xs).bind fun k=>if(iO k).canLay0=true then some k else none
theorem xp:∀ {xs:List QC} {l:List Int},oJ xs=some l→xs=l.map .int:=by
 intro a_
 induction a_ with
 | nil =>
  intro l e
  cases e;rfl
 | cons d r ih =>
  intro l e
  refine aH (mO e) fun i hi e=>?_
  refine aH (Qx.mp e) fun m hm e=>?_
  subst e
  rw[ih hm,u9 hi];rfl
theorem HS(e:yI d=some x):h9 x=d:=by
 cases d with
 | str x=>cases e;rfl
 | int i=>cases e;rfl
 | tuple xs =>
  refine aH (Qx.mp e) fun l hl XX=>?_
  subst XX
  rw[xp hl];rfl
 | _=>cases e
theorem yJ:∀ {xs:List QC} {k:List Lf},tC xs=some k→k.map h9=xs:=by
 intro a_
 induction a_ with
 | nil =>
  intro k e
  cases e;rfl
 | cons d r ih =>
  intro k e
  refine aH (mO e) fun x h1 e=>?_
  refine aH (Qx.mp e) fun l h2 e=>?_
  subst e
  rw[QX,HS h1,ih h2]
theorem yK(e:tE d=some k):iO k=d∧(iO k).canLay0=true:=by
 refine aH (mO e) fun xs e1 e=>?_
 refine aH (mO e) fun k' hk e=>?_
 refine bA (mI e) fun hc e=>?_
 cases cE e
 exact⟨by unfold iO;rw[yJ hk,GK e1],hc⟩
noncomputable def qf:List (List Lf×PV)→List Lf→Option PV
 | [],_=>none
 | (a,p)::r,k=>if a=k then some p else qf r k
noncomputable def Ck(i:Nat)(ps:List PV)(Xx:St):Option (PV×St):=(Du ps).bind fun x=>(gK x.1).bind fun key=>d7 Dt Xx[i]? fun l=>(tE key).map fun k=>((qf l k).getD x.2,Xx)
section
variable {c:Cf} {H:List Addr} {XJ:dF} {Xx:St} {s:QR}
theorem DK:qf ((a,p)::r) k=if a=k then some p else qf r k:=rfl
theorem yL{l:List (List Lf×PV)}:∀ {xs:List (List Lf×Addr×QM)},xs.map (·.1)=l.map (·.1)→cG h H XJ (l.map (·.2)) (xs.map (·.2.2))→∀ k,match qf l k with
  | some p=>∃ q,WZ xs k=some q∧VR h H XJ p q.2
  | none=>WZ xs k=none:=by
 induction l with
 | nil=>intro xs e _ k;cases T7.mp e;rfl
 | cons ap l ih =>
  intro xs e V k
  cases xs with
  | nil=>cases e
  | cons bq xs =>
   obtain⟨b,q⟩:=bq
   cases UQ e
   cases V with
   | cons v V =>
    have ih:=ih (UR e) V k
    rw[DK]
    by_cases ha:ap.1=k
    ·rw[if_pos ha]
     exact⟨q,by simp[WZ,ha],v⟩
    ·rw[if_neg ha,show WZ ((ap.1,q)::xs) k=WZ xs k by simp[WZ,ha]]
     exact ih
theorem yM{i:Nat}(v:cH c s.heap H XJ Xx)(ha:XJ[i]?=some a)(e:Xx[i]?=some (.tdict l)):
  a.1=a.2∧l.length≤2 ^ 20∧(a.2==Uf)=false∧∃ xs,s.heap.DictOfH (tv c.prog c.w) a.2 xs∧xs.map (·.1)=l.map (·.1)∧cG s.heap H XJ (l.map (·.2)) (xs.map (·.2.2)) ∧
   (∀ x∈xs,(iO x.1).canLay0=true∧DR s.heap (H++ow XJ) (iO x.1) (.ref x.2.1)):=by
 revert c H XJ Xx s a l i
 refine @mG _ _ _ _ _ _ _ _ _ (bi ox (bi nI (bi nI (bi nI (bi kL nI))))) ?_
 generalize q1 _=c,q2 _=H,q3 _=XJ,q4 _=Xx,q5 _=s,q6 _=a,q7 _=l,qe _=i
 intro v ha e
 refine cps fun G kG=>?_
 obtain⟨q,e1,hq,hl,lo,xs,o,es,ep,g1,g2,g3,g4,g5,g6,g7,g8⟩:=v.rep.objs i _ e
 refine kG ?_
 rw[ha] at e1;cases e1
 exact⟨hq,hl,lo,xs,⟨o,es,ep,g1,g2,g3,g4,fun x hx=>⟨(g5 x hx).1,(g5 x hx).2.reads⟩,g6⟩,g7,g8,g5⟩
end
theorem DL:wo "dict.get" Ck:=by
 intro c A H XJ Xx s i a r v ha ps vs V p XK h
 revert r v ha V h
 revert c A H XJ Xx s i a ps vs p XK
 refine @p9 _ _ _ _ _ _ _ _ _ _ _ _ _ (bi ox (bi qy (bi nI (bi nI (bi nI (bi kL nI)))))) ?_
 generalize q1 _=c,q2 _=A,q3 _=H,q4 _=XJ,q5 _=Xx,q6 _=s,q7 _=i,q8 _=a,q9 _=ps,lI _=vs,qx _=p,qe _=XK
 intro r v ha V h
 refine aH (mO h) fun⟨p,dflt⟩ hx h1=>?_
 refine aH (mO h1) fun key hkey h2=>?_
 refine aH (mT h2) fun l e h3=>?_
 refine aH (Qx.mp h3) fun k hk h5=>?_
 cases B6 hx
 cases nQ hkey
 ·cases h5
  obtain⟨hq,hl,lo,xs,g,k1,k2,k3⟩:=yM v ha e
  refine bA (yK hk) fun ke kl=>?_
  cases V with
  | cons x V =>
   cases V with
   | cons x2 V =>
    cases V
    have x:DR s.heap (H++ow XJ) key _:=x
    rw[← ke] at x
    refine iM (DR.tuple x) fun ad vs as e_3 _ _=>?_
    subst e_3
    rw[hq]
    refine U1 R9 g.typeIs U2 (UT _ _ _) (meetsH_dict_get_default (tv c.prog c.w) a.2 ad lo _) ⟨by have:=r.units;show A.units+1+20<9900;lia,k,xs,⟨kl,x.reads⟩,g,?_⟩
    have z:=yL k1 k2 k
    cases q:qf l k with
    | none =>
     rw[q] at z
     have z:WZ xs k=none:=z
     rw[z]
     exact .pst v .tok x2
    | some u =>
     rw[q] at z
     refine aH (z) fun w w1 w2=>?_
     rw[w1]
     exact .pst v .tok w2
noncomputable def wr(Xx:St)(p:PV)(key:QC)(q:PV):Option St:=(jX p).bind fun i=>d7 Dt Xx[i]? fun l=>(tE key).bind fun k=>if(qf l k).isNone∧l.length<2 ^ 20 then some (Xx.set i (.tdict (l++[(k,q)]))) else none
noncomputable def yg(fv fo fi:EF):SF:=fun ρ Xx=>pP (fv ρ Xx) fun q XA=>pP (fo ρ XA) fun p XB=>dh gK (fi ρ XB) fun key XC=>(wr XC p key q).map fun XD=>(.next,ρ,XD)
section
variable {d:Nat} {κ:Nm} {σ:List Str}
theorem Fk{Xx XK:St}(rm:Rm A 0)(v:cH c s.heap H XJ Xx)(hp:VR s.heap H XJ p o)(hk:VR s.heap H XJ (.dat key) w)(hq':VR s.heap H XJ q u)(h:wr Xx p key q=some XK):
  QS c.M A (Xe o w u) (fun _ s'=>bP c H [] s XJ s' XJ XK) No s:=by
 refine aH (mO h) fun i ei h=>?_
 cases tw ei
 ·refine aH (hp.ref) fun a ha XX=>?_
  subst XX
  refine aH (mT h) fun l e h=>?_
  ·refine aH (mO h) fun k hkey h=>?_
   ·refine cps fun G kG=>?_
    refine bA (mI h) fun hl' h=>?_
    obtain rfl:=cE h
    obtain⟨hq,hl,lo,xs,g,k1,k2,k3⟩:=yM v ha e
    refine bA (yK hkey) fun ke kl=>?_
    have hk:DR s.heap (H++ow XJ) key w:=hk
    rw[← ke] at hk
    refine iM (DR.tuple hk) fun ad vs as e_3 _ _=>?_
    subst e_3
    have z:=yL k1 k2 k
    rw[Option.isNone_iff_eq_none.mp hl'.1] at z
    have z:WZ xs k=none:=z
    refine kG ?_
    rw[hq]
    have XQ:xs.length=l.length:=by have:=congrArg Vv k1;simpa using this
    refine wpAny_setItem_heap (knd:=tv c.prog c.w) (k:=k) (xs:=xs) (by have:=rm.units;show A.units+1+20<9900;lia) ⟨kl,hk.reads⟩ g (fun h' g' hs=>?_) (by rw[XQ];exact QH hl (by decide))
    rw[storedH_new z] at g'
    refine NH (g') fun o' es ep g1 g2 g3 g4 g5 g6=>?_
    have up:∀ {dd:QC} {x:QM},DR s.heap (H++ow XJ) dd x→DR h' (H++ow XJ) dd x:=fun r=>by
     have:=r.mono (eg.upd (H:=H) ha hs.extBut);simpa using this
    refine v.updStp ha hs.extBut (o':=.tdict (l++[(k,q)])) ⟨hq,by simp;lia,lo,_,o',es,ep,g1,g2,g3,g4,fun x hx=>?_,g6,by simp[k1],?_⟩
    ·rcases Qw.mp hx with hx | hx
     ·exact⟨(k3 x hx).1,up (k3 x hx).2⟩
     ·rw[Qu] at hx;subst hx
      exact⟨kl,up hk⟩
    ·simpa using (k2.upd ha hs.extBut).snoc (hq'.upd ha hs.extBut)
theorem DM(XZ:bG d κ σ value fv)(X0:bG d κ σ o fo)(X3:bG d κ σ i fi)(hs:(fun env=>Ua value (some (.Subscript o i p₁)) p₂.line env)=fun env=>pure false:=by rfl):
  io d κ σ (.Assign [.Subscript o i p₁] value p₂) (yg fv fo fi):=fun {c A env H XJ ρ Xx s} r y fl Yg XK h=>by
 refine cz (mP h) fun q XA h1 h=>?_
 refine cz (mP h) fun p XB h2 h=>?_
 refine cps fun G kG=>?_
 refine cz (mD h) fun key XC h3 h=>?_
 refine aH (Qx.mp h) fun XD h4 e=>?_
 cases e
 refine kG ?_
 refine U3 (br (XZ r y _ _ h1) fun v Yb z=>aH z fun XE x1 r1=>br (X0 r (y.step x1) _ _ h2) fun ov Yc z=>aH z fun XF x2 r2=>br (X3 r ((y.step x1).step x2) _ _ h3) fun iv t₃ z=>aH z fun XG x3 r3=>?_) (congrFun hs env)
 refine br (Fk (r.le (Ry _)) x3.inv (x3.vr r2) r3 (x3.vr (x2.vr r1)) h4) fun _ X4 S=>?_
 have T:=((x1.trans x2).trans x3).trans S
 exact⟨_,T.own y,(y.step T).env,trivial⟩
end
noncomputable def Cm(Xx:St)(p:PV):Option Nat:=pD p (fun xs=>if small xs then some xs.length else none) (fun xs=>if small xs then some xs.length else none) fun i=>ou Xx[i]? (fun l=>some l.length) fun l=>some l.length
noncomputable def dw(g:LF):EF:=fun ρ Xx=>dh ot (g ρ Xx) fun p XA=>(Cm XA p).map fun(n:Nat)=>(PV.dat (.int (n:Int)),XA)
section
variable {d:Nat} {κ:Nm} {σ:List Str}
theorem HT{Xx:St}(i:cH c s.heap H XJ Xx)(hp:VR s.heap H XJ p v)(h:Cm Xx p=some n):
  QS c.M A (call (.builtin "len") [v] []) (iQ c H s XJ Xx (.dat (.int n))) No s:=by
 refine yc h (fun xs e h=>?_) (fun xs e h=>?_) fun k e h=>?_
 ·refine cps fun G kG=>?_
  subst e
  refine bA (mI h) fun hs h=>?_
  obtain rfl:=cE h
  have hs:xs.length≤2 ^ 20:=of_decide_eq_true hs
  refine iM (DR.list hp) fun a vs as e_3 L R=>?_
  subst e_3
  have hl:=(dj R).length
  simp only[Qs] at hl
  refine kG ?_
  refine call_len_list L (by simp;lia) ?_
  refine .pst i .tok ⟨[],?_⟩
  simp only[Ru,← hl]
  exact .int _ _
 ·refine cps fun G kG=>?_
  subst e
  refine bA (mI h) fun hs h=>?_
  obtain rfl:=cE h
  have hs:xs.length≤2 ^ 20:=of_decide_eq_true hs
  refine iM (DR.tuple hp) fun a vs as e_3 L R=>?_
  subst e_3
  have hl:=(dj R).length
  simp only[Qs] at hl
  refine kG ?_
  refine PyProof.Rows.len_tuple L (by simp;lia) ?_
  refine .pst i .tok ⟨[],?_⟩
  simp only[Ru,← hl]
  exact .int _ _
 ·subst e
  refine aH (hp.ref) fun a ha XX=>?_
  subst XX
  refine B8 h (fun l e h=>?_) fun l e h=>?_
  ·refine cps fun G kG=>?_
   obtain rfl:=cE h
   obtain⟨q,e1,hq,hl,vs,ep,g,V⟩:=i.rep.objs k _ e
   refine kG ?_
   rw[ha] at e1;cases e1
   have XQ:=V.length
   refine call_len_list (l:=a.1) (items:=QW vs) ⟨_,hq▸g,rfl,ep,rfl⟩ (by simp;lia) ?_
   refine .pst i .tok ⟨[],?_⟩
   simp only[Ru,← XQ]
   exact .int _ _
  ·refine cps fun G kG=>?_
   obtain rfl:=cE h
   obtain⟨hq,hl,lo,m,g,R⟩:=iV i ha e
   have XQ:=R.len
   refine kG ?_
   rw[hq]
   refine call_len_dict (knd:=Q5 c.prog c.w) lo g (by lia) ?_
   refine .pst i .tok ⟨[],?_⟩
   rw[← XQ]
   exact .int _ _
theorem dO(L:fL d κ σ es g)(hx:kw.lookup ("len":Str)=some none:=by kernel_rfl)(hp:gy es=true:=by rfl)(hk:κ.lookup ("len":Str)=some .globalImplicit:=by kernel_rfl):
  bG d κ σ (.Call (.Name "len" p₀) es [] pos) (dw g):=fun {c A env H XJ ρ Xx s} r y p XK h=>by
 refine cz (m1 h) fun q XA hg h=>?_
 refine aH (Qx.mp h) fun n hn e=>?_
 cases e
 refine oI (gT hx) boot_len (eF hp) r y L hg (fun vs XZ XE x1 V=>?_) (by decide) hk (by decide)
 cases V with
 | cons v V =>
  cases V
  exact br (HT x1.inv v hn) fun u t z=>.next x1 z
end
noncomputable def fG(is:List Nat)(g:LF):SF:=fun ρ Xx=>pP (g ρ Xx) fun ps XA=>if small ps then(jd is ps.reverse ρ).map fun X6=>(.next,X6,XA) else none
section
variable {d:Nat} {κ:Nm} {σ:List Str}
theorem cG.rev(r:cG h H XJ ps vs):cG h H XJ ps.reverse vs.reverse:=by
 induction r with
 | nil=>exact .nil
 | cons a _ ih=>rw[V8,V8];exact ih.snoc a
theorem gF (nd:σ.Nodup) (N:pG ve κ σ ns.reverse is) (L:fL d κ σ vs g)
  (hs:(fun env=>UF [.Tuple es k p₁] (.Tuple vs k' p₂) p₃.line env)=fun env=>pure false:=by rfl)
  (hw:∀ env:Env,env.scope.names=κ→env.scope.kind=.function→S0 [.Tuple es k p₁] (.Tuple vs k' p₂) env=pure (some ns)) :
  io d κ σ (.Assign [.Tuple es k p₁] (.Tuple vs k' p₂) p₃) (fG is g):=fun {c A env H XJ ρ Xx s} r y fl Yg XK h=>by
 refine cz (mP h) fun ps XA h1 h0=>?_
 refine bA (mI h0) fun hsm h3=>?_
 ··refine cps fun G kG=>?_
   refine aH (Qx.mp h3) fun X6 h2 e=>?_
   cases e
   refine kG ?_
   refine Assign_Tuple_swapped (WA (br (L r y _ _ h1 p₂) fun us XZ z=>aH z fun XE x1 V=>?_)) (congrFun hs env) (hw env y.env.names y.env.kind)
   have XQ:ps.length≤2 ^ 20:=of_decide_eq_true hsm
   refine⟨by rw[← V.length];exact QH XQ (by decide),?_⟩
   have S₂:=(ip (s:=XZ) (o:={ cls:=.type "tuple",data:=.seq us.toArray })).stp x1.inv
   have hl:ns.length=us.length:=by
    have a:=k0 h2
    have b:=N.len
    rw[List.length_reverse] at a b
    rw[b,a];exact V.length
   have T:IsTup (XZ.heap.push { cls:=.type "tuple",data:=.seq us.toArray }) XZ.heap.objs.size us.toArray:=⟨_,QI _ rfl,rfl,_,rfl⟩
   have hsz:ns.length=us.toArray.size:=by simp[hl]
   rw[hsz]
   refine unpackItems_tuple r.handled T fun h' he=>?_
   have P:ez { XZ with heap:=XZ.heap.push { cls:=.type "tuple",data:=.seq us.toArray } } { XZ with heap:=h' }:=⟨fun b o e=>he b o (Rq (Q1 e)) e,_,_,rfl⟩
   have S₃:=P.stp S₂.inv
   have TT:=(x1.trans S₂).trans S₃
   refine br (yz (act:=fun n=>bindName env n) (nm:=fun n=>n) (fun y=>(bP.refl y.inv).own y) (fun hi hk y a=>bindName_ (iR y hi nd (ty hk) a)) (l:=ns.reverse) (by rw[List.map_id'];exact N) (y.step TT) (by simpa using (S₃.vrs (S₂.vrs V)).rev) h2) fun _ s' z=>bA z fun S₄ E₄=>⟨_,(TT.own y).trans S₄,E₄,trivial⟩
end
noncomputable def Co:=Fh fun a b=>.int (if b<a then b else a)
theorem Fm:vo (.builtin "min") Co:=GU fun c A H s a t b u rm=>min_two_ints rm.handled fun h' tk k=>⟨⟨k,_,_,rfl⟩,[],by split<;>exact .int _ _⟩
noncomputable def Cp:=Fh fun a b=>.int (if b>a then b else a)
theorem Fo:vo (.builtin "max") Cp:=GU fun c A H s a t b u rm=>max_two_ints rm.handled fun h' tk k=>⟨⟨k,_,_,rfl⟩,[],by split<;>exact .int _ _⟩
noncomputable def gd(g:LF):EF:=fun ρ Xx=>dh ot (g ρ Xx) fun p XA=>pD p (fun xs=>if small xs then some (.dat (.tuple xs),XA) else none) (fun xs=>some (.dat (.tuple xs),XA)) fun i=>d7 kM XA[i]? fun l=>(gM l).bind fun ds=>some (.dat (.tuple ds),XA)
section
variable {d:Nat} {κ:Nm} {σ:List Str}
theorem xq{Xx:St}(i:cH c s.heap H XJ Xx)(L:s.heap.IsList l (QW vs))(R:Rf (Tv s.heap (H++ow XJ)) vs xs as)(hl:vs.length≤2 ^ 20):
  QS c.M A (call (.type "tuple") [.ref l] []) (iQ c H s XJ Xx (.dat (.tuple xs))) No s:=by
 refine call_tuple_list L (fun h' k=>?_) (by rw[Ru];exact QH hl (by decide))
 have P:ez s { s with heap:=h'.push { cls:=.type "tuple",data:=.seq (QW vs) } }:=⟨fun b o e=>Qz _ (k b o e),_,_,rfl⟩
 have lv:∀ a∈H++ow XJ,(h'.get? a).isSome=true:=fun a ha=>by
  refine bM (Qy.mp (i.live a ha)) fun o e=>?_
  rw[k a o e];rfl
 refine .pst i P ⟨as,.tuple (mQ lv rfl) rfl rfl ?_⟩
 exact Sq (fun b o e=>(eg.hide (H':=H++ow XJ) fun b o e n=>⟨P.keep b o e,n⟩) b o e) R
theorem ii(L:fL d κ σ es g)(hx:kw.lookup ("tuple":Str)=some none:=by kernel_rfl)(hb:Rp "tuple"=some (.type "tuple"):=by decide +kernel)(hp:gy es=true:=by rfl)(hk:κ.lookup ("tuple":Str)=some .globalImplicit:=by kernel_rfl):
  bG d κ σ (.Call (.Name "tuple" p₀) es [] pos) (gd g):=fun {c A env H XJ ρ Xx s} r y p XK h=>by
 refine cz (m1 h) fun q XA hg h=>?_
 refine yc h (fun xs e h=>?_) (fun xs e h=>?_) fun i e h=>?_
 ·subst e
  refine bA (mI h) fun hs h=>?_
  refine bA (dg h) fun XV XW=>?_
  subst XV XW
  refine kB (gT hx) hb (eF hp) r y L hg (fun vs XZ XE x1 V=>?_) (by decide) hk (by decide)
  refine V.e1 fun _ v e_=>?_
  subst e_
  refine iM (DR.list v) fun a us as e_3 L R=>?_
  subst e_3
  have hl:=(dj R).length
  simp only[Qs] at hl
  exact br (xq x1.inv L R (by rw[← hl];exact of_decide_eq_true hs)) fun u t z=>.next x1 z
 ·subst e
  refine bA (dg h) fun XV XW=>?_
  subst XV XW
  refine kB (gT hx) hb (eF hp) r y L hg (fun vs XZ XE x1 V=>?_) (by decide) hk (by decide)
  refine V.e1 fun _ v e_=>?_
  subst e_
  refine iM (DR.tuple v) fun a us as e L R=>?_
  subst e
  exact PyProof.Rows.call_tuple_tup L (.next x1 (.pst x1.inv .refl v))
 ·subst e
  refine aH (mA h) fun l e h=>?_
  refine aH (mO h) fun ds hds h=>?_
  ·refine bA (dg h) fun XV XW=>?_
   subst XV XW
   refine kB (gT hx) hb (eF hp) r y L hg (fun vs XZ XE x1 V=>?_) (by decide) hk (by decide)
   refine V.e1 fun _ v e_=>?_
   subst e_
   refine aH (v.ref) fun a ha XX=>?_
   subst XX
   obtain⟨q,e1,hq,hl,us,ep,g2,U⟩:=x1.inv.rep.objs i _ e
   rw[ha] at e1;cases e1
   have XQ:=U.length
   rw[ia hds] at U
   refine bM (cG.dats U) fun as R=>?_
   exact br (xq (l:=a.1) x1.inv ⟨_,hq▸g2,rfl,ep,rfl⟩ R (by rw[← XQ];exact hl)) fun u t z=>.next x1 z
end
noncomputable def HU:QC→Option Bool
 | .none=>some true
 | .bool _=>some false
 | .int _=>none
 | .str _=>none
 | .list _=>some false
 | .tuple _=>some false
 | .dict _=>none
noncomputable def Bk:PV→Option Bool
 | .dat d=>HU d
 | .ref _=>some false
 | .stat _=>none
noncomputable def jn(pos:Bool)(f:EF):EF:=fun ρ Xx=>pP (f ρ Xx) fun p XA=>(Bk p).map fun b=>(PV.dat (.bool (b==pos)),XA)
theorem Cq(r:VR h H XJ p v)(e:Bk p=some b):plainIs v .none=true∧(v==.none)=b:=by
 cases p with
 | dat d =>
  cases d with
  | none=>cases cE e;cases DR.none r;exact⟨rfl,rfl⟩
  | bool=>cases cE e;cases DR.bool r;exact⟨rfl,rfl⟩
  | list=>cases cE e;exact iM (DR.list r) fun _ _ _ e _ _=>e▸⟨rfl,rfl⟩
  | tuple=>cases cE e;exact iM (DR.tuple r) fun _ _ _ e _ _=>e▸⟨rfl,rfl⟩
  | _=>exact dK e
 | ref=>cases cE e;exact aH r.ref fun _ _ e=>e▸⟨rfl,rfl⟩
 | stat=>exact dK e
section
variable {d:Nat} {κ:Nm} {σ:List Str}
theorem nU(XZ:bG d κ σ e f)(hm:Th .IsNot (.Constant .none k p₁)=false:=by kernel_rfl):gL d κ σ (.Compare e [.IsNot] [.Constant .none k p₁] p₂) (ao (jn false f)):=fun _ _ _ _ _ _ _ _ r y b XK h=>by
 refine cz (mB h) fun q XA h' h=>?_
 ·cases h
  refine cz (mP h') fun p XB h1 h'=>?_
  ·refine aH (Qx.mp h') fun c hc e=>?_
   cases e
   refine S2 (br (XZ r y _ _ h1) fun v Yb z=>aH z fun XE x1 r1=>QB ?_) hm
   refine bA (Cq r1 hc) fun z1 z2=>?_
   refine wpAny_isNot_plain z1 (Q3 ⟨?_,XE,x1⟩)
   rw[z2];cases c<;>rfl
end
noncomputable def yN(X8 X9:EF):EF:=fun ρ Xx=>dh xd (X8 ρ Xx) fun xs XA=>dh xd (X9 ρ XA) fun ys XB=>if small (xs++ys) then some (.dat (.list (xs++ys)),XB) else none
theorem vt(p:Rf h vs xs as)(q:Rf h ws ys bs):∃ cs,Rf h (vs++ws) (xs++ys) cs :=
 yt (P:=fun vs xs=>∃ cs,Rf h (vs++ws) (xs++ys) cs) ⟨_,q⟩ (fun a z=>bM z fun _ z=>⟨_,.cons a z⟩) p
section
variable {d:Nat} {κ:Nm} {σ:List Str}
theorem Fp(XZ:bG d κ σ e₁ X8)(X0:bG d κ σ e₂ X9):bG d κ σ (.BinOp e₁ .Add e₂ pos) (yN X8 X9):=fun {c A env H XJ ρ Xx s} r y p XK h=>by
 refine cz (mL h) fun xs XA h1 h=>?_
 refine cz (mL h) fun ys XB h2 h=>?_
 refine bA (mI h) fun hs h=>?_
 refine bA (dg h) fun XV XW=>?_
 subst XV XW
 have hs:(xs++ys).length≤2 ^ 20:=of_decide_eq_true hs
 refine wpAny_BinOp (br (XZ r y _ _ h1) fun v Yb z=>aH z fun XE x1 r1=>br (X0 r (y.step x1) _ _ h2) fun w Yc z=>aH z fun XF x2 r2=>?_)
 refine cps fun G kG=>?_
 refine iM (DR.list (x2.vr r1)) fun l vs as e_3 L1 R1=>?_
 subst e_3
 refine iM (DR.list r2) fun b ws bs e_3 L2 R2=>?_
 subst e_3
 have l1:=(dj R1).length
 have l2:=(dj R2).length
 simp only[Qs,RR] at l1 l2 hs
 refine bM (vt R1 R2) fun cs R=>?_
 obtain⟨⟨cls,dd,data,sl⟩,ho,hc,n,hd⟩:=id L1
 obtain⟨⟨cls2,dd2,data2,sl2⟩,ho2,hc2,n2,hd2⟩:=id L2
 simp only at hc hd hc2 hd2
 subst hc hd hc2 hd2
 have e:vs.toArray++ws.toArray=(vs++ws).toArray:=by simp
 refine kG ?_
 refine concat_meets ⟨_,ho,rfl⟩ ⟨_,ho2,rfl⟩ noFill_list_add seq_list_add PySem.F.slot_list_add PySem.F.entry_list_add (PySem.F.args_list_add_2 _ _) (list_addW l b vs.toArray ws.toArray n n2 dd dd2 sl sl2 (by simp only[Ru];rw[Vt];omega)) ⟨ho,ho2,?_⟩
 rw[e]
 refine .next (x1.trans x2) (.pst x2.inv ip ⟨_::cs,.list (mQ x2.inv.live rfl) rfl rfl ?_⟩)
 exact Sq (fun b o e=>(eg.hide (H':=H++ow XF) fun b o e n=>⟨Qz _ e,n⟩) b o e) R
end
noncomputable def GV(a b:QC):Option QC:=(yu a).bind fun a=>(yu b).bind fun b=>some (.int ((if a then 1 else 0) - (if b then 1 else 0)))
theorem HV:jY (Ui .Sub) GV:=fun c A H s v w a b r rm ra rb h=>by
 refine aH (mO h) fun p hp h1=>?_
 refine aH (mO h1) fun q hq h2=>?_
 cases vc hp
 cases vc hq
 ·obtain rfl:=cE h2
  rw[DR.bool ra,DR.bool rb]
  exact PyProof.Rows.sub_bool ⟨.tok,[],by cases p<;>cases q<;>exact .int _ _⟩
noncomputable def qD(Xx:St):PV→Option QC
 | .dat d=>some d
 | .ref i=>d7 kM Xx[i]? fun l=>(gM l).map .list
 | .stat _=>none
theorem sE{Xx:St}(i:cH c h H XJ Xx)(r:VR h H XJ p v)(e:qD Xx p=some d):∃ as,Reads h v d as:=by
 cases p with
 | dat=>cases e;exact DR.reads r
 | ref k =>
  refine cps fun G kG=>?_
  refine aH (mA e) fun l hl e=>?_
  refine aH (Qx.mp e) fun ds hd XX=>?_
  subst XX
  refine aH (r.ref) fun a ha XX=>?_
  subst XX
  obtain⟨q,e1,hq,_,vs,ep,g,V⟩:=i.rep.objs k _ hl
  refine kG ?_
  rw[ha] at e1;cases e1
  rw[ia hd] at V
  refine bM (cG.dats V) fun as R=>?_
  rw[hq]
  exact⟨_,.list g rfl rfl (Sq (fun _ _ z=>UZ _ z) (by simpa using R))⟩
 | stat=>exact dK e
noncomputable def wt(pos:Bool)(f g:EF):EF:=fun ρ Xx=>pP (f ρ Xx) fun p XA=>pP (g ρ XA) fun q XB=>(qD XB p).bind fun a=>(qD XB q).bind fun b=>if Q8 a=true∧Q8 b=true then some (.dat (.bool (Rg a b==pos)),XB) else none
section
variable {d:Nat} {κ:Nm} {σ:List Str}
theorem Fq(XZ:bG d κ σ e₁ f)(X0:bG d κ σ e₂ g)(hm:Th .Eq e₂=false:=by kernel_rfl):gL d κ σ (.Compare e₁ [.Eq] [e₂] pos) (ao (wt true f g)):=fun _ _ _ _ _ _ _ _ r y b XK h=>by
 refine cz (mB h) fun q XA h' h=>?_
 ·refine cps fun G kG=>?_
  cases h
  refine kG ?_
  refine cz (mP h') fun p XB h1 h'=>?_
  ·refine cz (mP h') fun p' XC h2 h'=>?_
   ·refine aH (mO h') fun a ha h'=>?_
    ·refine aH (mO h') fun b' hb h'=>?_
     refine bA (mI h') fun hs h'=>?_
     ·cases h'
      refine S2 (br (XZ r y _ _ h1) fun v Yb z=>aH z fun XE x1 r1=>br (X0 r (y.step x1) _ _ h2) fun w Yc z=>aH z fun XF x2 r2=>?_) hm
      obtain⟨as,R1⟩:=sE x2.inv (x2.vr r1) ha
      obtain⟨bs,R2⟩:=sE x2.inv r2 hb
      refine T3 R1 R2 hs.1 hs.2 (r.le (Ry _)).c64 (Q3 ⟨?_,XF,x1.trans x2⟩)
      cases Rg a b'<;>rfl
end
noncomputable abbrev GW(xs:List QC)(d:QC):Prop:=Rn xs=true∧d.canLay0=true∧min (Rs xs) d.depth≤60
noncomputable def xr(k:Bool→Bool)(d:QC):QC→Option QC
 | .none=>none
 | .bool _=>none
 | .int _=>none
 | .str _=>none
 | .list xs=>if GW xs d then some (.bool (k (xs.any fun y=>Rg y d))) else none
 | .tuple xs=>if GW xs d then some (.bool (k (xs.any fun y=>Rg y d))) else none
 | .dict _=>none
noncomputable def iF:QC→QC→Option QC:=xr fun b=>b
noncomputable def lg:QC→QC→Option QC:=xr not
theorem tF:jY (Sb .In) iF:=fun {c A H s v w a b r} rm ra rb h=>by
 refine cps fun G0 Yj=>?_
 have cl:=rm.cLine
 cases b
 all_goals first | exact dK h | skip
 ·refine bA (mI h) fun hf h=>?_
  obtain rfl:=cE h
  refine bM (ra.reads) fun as ra=>?_
  refine bM (rb.reads) fun bs rb=>?_
  refine Yj ?_
  exact PySem.SeqAt.in_list_reads rb ra hf.1 hf.2.1 (by have:=hf.2.2;lia) ⟨.refl,[],.bool _⟩
 ·refine bA (mI h) fun hf h=>?_
  obtain rfl:=cE h
  refine bM (ra.reads) fun as ra=>?_
  refine bM (rb.reads) fun bs rb=>?_
  refine Yj ?_
  exact PySem.SeqAt.in_tuple_reads rb ra hf.1 hf.2.1 (by have:=hf.2.2;lia) ⟨.refl,[],.bool _⟩
theorem yO:jY (Sb .NotIn) lg:=fun {c A H s v w a b r} rm ra rb h=>by
 refine cps fun G1 Yk=>?_
 have cl:=rm.cLine
 cases b
 all_goals first | exact dK h | skip
 ·refine bA (mI h) fun hf h=>?_
  obtain rfl:=cE h
  refine bM (ra.reads) fun as ra=>?_
  refine bM (rb.reads) fun bs rb=>?_
  refine Yk ?_
  exact PySem.SeqAt.notIn_list_reads rb ra hf.1 hf.2.1 (by have:=hf.2.2;lia) ⟨.refl,[],.bool _⟩
 ·refine bA (mI h) fun hf h=>?_
  obtain rfl:=cE h
  refine bM (ra.reads) fun as ra=>?_
  refine bM (rb.reads) fun bs rb=>?_
  refine Yk ?_
  exact PySem.SeqAt.notIn_tuple_reads rb ra hf.1 hf.2.1 (by have:=hf.2.2;lia) ⟨.refl,[],.bool _⟩
noncomputable def rj(Xx:St)(p:PV)(j:Nat):Option (Option QC):=match p with
 | .dat d=>(Ds d).map (·[j]?)
 | .ref k=>d7 kM Xx[k]? fun l=>match l[j]? with
  | none=>some none
  | some p=>(gK p).map some
 | .stat _=>none
noncomputable def oK(Xx:St):PV→Option Nat
 | .dat d=>(Ds d).map (·.length)
 | .ref k=>d7 kM Xx[k]? fun l=>some l.length
 | .stat _=>none
noncomputable def iG(p q:PV):vk:=fun Xx j=>(rj Xx p j).bind fun a=>(rj Xx q j).map fun b=>a.bind fun x=>b.map fun y=>.dat (.tuple [x,y])
noncomputable def lU(g:LF):IF:=fun ρ Xx=>dh Du (g ρ Xx) fun x XA=>(oK XA x.1).bind fun n=>(oK XA x.2).bind fun m=>some (iG x.1 x.2,min n m,XA)
section
variable {c:Cf} {h:Heap} {H:List Addr} {XJ:dF} {Xx:St}
theorem t5(i:cH c h H XJ Xx)(r:VR h H XJ p v)(e:oK Xx p=some n):∃ l vs,v=.ref l∧h.IsList l (QW vs):=by
 refine cps fun G0 Yj=>?_
 cases p with
 | dat d =>
  refine aH (Qx.mp e) fun xs hx e=>?_
  cases B4 hx
  refine iM (DR.list r) fun a vs as e_3 L _=>?_
  subst e_3
  refine Yj ?_
  exact⟨a,vs,rfl,L⟩
 | ref k =>
  refine aH (mA e) fun l hl e=>?_
  refine aH (r.ref) fun a ha XX=>?_
  subst XX
  obtain⟨q,e1,hq,_,vs,ep,g,V⟩:=i.rep.objs k _ hl
  refine Yj ?_
  rw[ha] at e1;cases e1
  exact⟨_,vs,rfl,_,hq▸g,rfl,ep,rfl⟩
 | stat=>exact dK e
noncomputable def NP(h:Heap)(G:List Addr)(vs:List QM)(j:Nat):Option QC→Prop
 | none=>vs[j]?=none
 | some d=>∃ u,vs[j]?=some u∧DR h G d u
theorem jP(i:cH c h H XJ Xx)(r:VR h H XJ p (.ref l))(e:rj Xx p j=some x):∃ vs,h.IsList l (QW vs)∧NP h (H++ow XJ) vs j x:=by
 revert c h H XJ Xx p l j x
 refine @tX _ _ _ _ _ _ _ _ _ _ (bi ox nI) ?_
 generalize q1 _=c,q2 _=h,q3 _=H,q4 _=XJ,q5 _=Xx,q6 _=p,q7 _=l,q8 _=j,qe _=x
 intro i r e
 cases p with
 | stat v=>cases e
 | dat d =>
  cases d<;>first | (cases e;done) | skip
  rename_i xs
  refine iM (DR.list r) fun a vs as e1 L R=>?_
  cases e1
  obtain rfl:=cE e
  have V:=dj R
  refine⟨vs,L,?_⟩
  show NP _ _ vs j xs[j]?
  cases q:xs[j]? with
  | none =>
   have hl:=V.length;simp only[Qs] at hl
   rw[Rz] at q
   show vs[j]?=none
   rw[Rz];lia
  | some d =>
   refine aH (V.get (i:=j) (p:=.dat d) (by rw[Q7,q];rfl)) fun u hu hr=>?_
   exact⟨u,hu,hr⟩
 | ref k =>
  refine aH (mA e) fun ll hl e=>?_
  ·refine aH (r.ref) fun a ha e1=>?_
   cases e1
   obtain⟨q,e1,hq,_,vs,ep,g,V⟩:=i.rep.objs k _ hl
   rw[ha] at e1;cases e1
   refine⟨vs,⟨_,hq▸g,rfl,ep,rfl⟩,?_⟩
   cases hn:ll[j]? with
   | none =>
    rw[hn] at e
    obtain rfl:=cE e
    have hl:=V.length
    rw[Rz] at hn
    show vs[j]?=none
    rw[Rz];lia
   | some y =>
    rw[hn] at e
    refine aH (Qx.mp e) fun d hd e=>?_
    cases nQ hd
    cases e
    refine aH (V.get hn) fun u hu hr=>?_
    exact⟨u,hu,hr⟩
end
theorem Fs(D:ZipApart z TI TO i1 i2 l1 l2):
  qb c ([z,TO,TI,i1,i2]++H) (.Tuple elts k pos) (iG p q) (.ref z) [z,TO,TI,i1,i2] (fun j XJ s=>IsZip s.heap z TI TO .none∧Xh s.heap TI (.ref i1) (.ref i2)∧(∃ a b,Xh s.heap TO a b)∧s.heap.IsListIter i1 l1 j∧s.heap.IsListIter i2 l2 j ∧
   VR s.heap ([z,TO,TI,i1,i2]++H) XJ p (.ref l1)∧VR s.heap ([z,TO,TI,i1,i2]++H) XJ q (.ref l2)) where
 next:=fun {A s XJ Xx j r} hh i hJ hc=>by
  refine cps fun G1 Yk=>?_
  obtain⟨hz,hTI,⟨a,b,hTO⟩,h1,h2,r1,r2⟩:=hJ
  have tch:∀ h':Heap,(∀ c o,c≠z→c≠TO→c≠i1→c≠i2→s.heap.get? c=some o→h'.get? c=some o)→jc [z,TO,TI,i1,i2] s { s with heap:=h' }:=fun h' hk =>
   ⟨fun b o n e=>hk b o (fun w=>n (by simp[w])) (fun w=>n (by simp[w])) (fun w=>n (by simp[w])) (fun w=>n (by simp[w])) e,_,_,rfl⟩
  refine aH (mO hc) fun x' ha hc=>?_
  refine aH (Qx.mp hc) fun y' hb hc=>?_
  rcases x' with _ | x
  ·cases hc
   refine aH (jP i r1 ha) fun vs L1 n1=>?_
   refine aH (jP i r2 hb) fun ws L2 _=>?_
   refine Yk ?_
   exact Vw hh D hz hTI hTO h1 h2 L1 L2 (.inl (by have n1:vs[j]?=none:=n1;simpa using n1)) fun h' hk=>⟨rfl,tch h' hk⟩
  rcases y' with _ | y
  ·cases hc
   refine aH (jP i r1 ha) fun vs L1 _=>?_
   refine aH (jP i r2 hb) fun ws L2 n2=>?_
   refine Yk ?_
   exact Vw hh D hz hTI hTO h1 h2 L1 L2 (.inr (by have n2:ws[j]?=none:=n2;simpa using n2)) fun h' hk=>⟨rfl,tch h' hk⟩
  ·obtain⟨vs,L1,u1,hu1,d1⟩:=jP i r1 ha
   cases hc
   obtain⟨ws,L2,u2,hu2,d2⟩:=jP i r2 hb
   refine Yk ?_
   refine wpAny_pyNext_zip_item D hz hTI hTO h1 h2 L1 L2 (by simpa using hu1) (by simpa using hu2) fun h' a1 a2 a3 a4 a5 a6 hk=>⟨_,rfl,wpAny_letOwnedTupleGo_zip a1 fun h'' hz'' hs''=>?_⟩
   have ne:∀ {c o},s.heap.get? c=some o→c≠s.heap.objs.size:=fun e=>Rq (Q1 e)
   have hzn:=ne hz
   have tt:jc [z,TO,TI,i1,i2] s { s with heap:=h'' }:=⟨fun b o n e=>hs''.extBut b o (fun w=>n (by simp[w])) (hk b o (fun w=>n (by simp[w])) (fun w=>n (by simp[w])) (fun w=>n (by simp[w])) (fun w=>n (by simp[w])) e),_,_,rfl⟩
   have hTI':Xh h'' TI (.ref i1) (.ref i2):=hs''.extBut _ _ D.TIz (hk _ _ D.TIz D.TITO D.TIi1 D.TIi2 hTI)
   have hTO':Xh h'' TO u1 u2:=hs''.extBut _ _ D.TOz a2
   have h1':=a3.extBut hs''.extBut D.i1z
   have h2':=a4.extBut hs''.extBut D.i2z
   have hT':Xh h'' s.heap.objs.size u1 u2:=hs''.extBut _ _ (Tc hzn) a5
   have live:∀ a∈[z,TO,TI,i1,i2],(h''.get? a).isSome=true:=fun a ha=>by
    simp only[QJ,RV,or_false] at ha
    rcases ha with rfl | rfl | rfl | rfl | rfl
    ·rw[hz''];rfl
    ·rw[hTO'];rfl
    ·rw[hTI'];rfl
    ·obtain⟨o,e,_⟩:=h1';rw[e];rfl
    ·obtain⟨o,e,_⟩:=h2';rw[e];rfl
   have see:eg s.heap (([z,TO,TI,i1,i2]++H)++ow XJ) h'' (([z,TO,TI,i1,i2]++H)++ow (XJ++[])):=fun b o e n =>
    ⟨tt.keep b o (fun hm=>n (Qq _ (Qq _ hm))) e,by simpa using n⟩
   have vr:∀ {p v},VR s.heap ([z,TO,TI,i1,i2]++H) XJ p v→VR h'' ([z,TO,TI,i1,i2]++H) XJ p v:=fun r=>by
    have:=VR.mono (new:=[]) see r;simpa using this
   have dr:∀ {d v},DR s.heap (([z,TO,TI,i1,i2]++H)++ow XJ) d v→DR h'' (([z,TO,TI,i1,i2]++H)++ow XJ) d v:=fun r=>by
    have:=DR.mono see r;simpa using this
   refine⟨tt,live,?_,hz'',hTI',⟨_,_,hTO'⟩,h1',h2',vr r1,vr r2⟩
   refine bM (dr d1) fun as R1=>?_
   refine bM (dr d2) fun bs R2=>?_
   refine⟨_,.tuple (TN _ hT' fun hm=>?_) rfl rfl (.cons R1 (.cons R2 .nil))⟩
   refine bM (Qy.mp (i.live _ hm)) fun o e=>?_
   exact Ti _ (Q1 e)
 move:=fun {X s s' XJ XM Xx XK j} hX i S hJ=>by
  refine cps fun G3 kG3=>?_
  obtain⟨hz,hTI,⟨a,b,hTO⟩,h1,h2,r1,r2⟩:=hJ
  have k:∀ w∈[z,TO,TI,i1,i2],∀ o,s.heap.get? w=some o→s'.heap.get? w=some o:=fun w hw o e=>S.keepH i (Qq _ hw) (fun hm=>hX _ hm hw) e
  refine kG3 ?_
  exact⟨k z (by simp) _ hz,k TI (by simp) _ hTI,⟨a,b,k TO (by simp) _ hTO⟩,h1.at fun o e=>k i1 (by simp) o e,h2.at fun o e=>k i2 (by simp) o e,S.vr r1,S.vr r2⟩
 self:=fun hJ q=>Wr hJ.1 q
theorem VR.more'(k:∀ b o,h.get? b=some o→h₁.get? b=some o)(f:∀ a∈W++Y,h.get? a=none)(r:VR h H XJ p v):VR h₁ (W++(Y++H)) XJ p v:=by
 have:=r.more k f
 rwa [QF] at this
section
variable {d:Nat} {κ:Nm} {σ:List Str}
theorem rk(L:fL d κ σ es g)(hx:kw.lookup ("zip":Str)=some none:=by kernel_rfl)(hb:Rp "zip"=some (.type "zip"):=by decide +kernel)(hp:gy es=true:=by rfl)(hk:κ.lookup ("zip":Str)=some .globalImplicit:=by kernel_rfl):
  qc d κ σ (.Tuple elts k p₁) (.Call (.Name "zip" p₀) es [] pos) (lU g):=fun {c A env H XJ ρ Xx s} r y XR n XK h=>by
 refine cz (kW (g:=fun x=>[x.1,x.2]) h B6) fun⟨p,q⟩ XA hg h=>?_
 ·refine aH (mO h) fun n' hn h=>?_
  refine aH (mO h) fun m' hm h=>?_
  ·refine iL (jp h) fun XV XW XX=>?_
   subst XV XW XX
   refine kB (gT hx) hb (eF hp) r y L hg (fun vs XZ XE x1 V=>?_) (by decide) hk (by decide)
   refine V.e2 fun _ _ v w e_=>?_
   subst e_
   refine cz (t5 x1.inv v hn) fun l1 us1 XX L1=>?_
   subst XX
   refine cz (t5 x1.inv w hm) fun l2 us2 XX L2=>?_
   subst XX
   have lt1:l1<XZ.heap.objs.size:=by obtain⟨o,e,_⟩:=L1;exact Q1 e
   have lt2:l2<XZ.heap.objs.size:=by obtain⟨o,e,_⟩:=L2;exact Q1 e
   refine call_zip_2 L1 L2 fun h' hz hTI hTO h1 h2 _ hk=>Wr hz ⟨XZ,XE,[XZ.heap.objs.size+4,XZ.heap.objs.size+3,XZ.heap.objs.size+2,XZ.heap.objs.size,XZ.heap.objs.size+1],x1,⟨hk,_,_,rfl⟩,fun a ha=>?_,fun Y X3 P hY=>⟨_,Fs (zipApart_new lt1 lt2),P.keep _ _ hz,P.keep _ _ hTI,⟨_,_,P.keep _ _ hTO⟩,h1.at fun o e=>P.keep _ o e,h2.at fun o e=>P.keep _ o e,?_,?_⟩⟩
   ·have fr:∀ b,XZ.heap.objs.size≤b→XZ.heap.get? b=none:=fun b hb=>by
     cases q:XZ.heap.get? b with
     | none=>rfl
     | some o=>exact absurd (Q1 q) (TG.mpr hb)
    simp only[QJ,RV,or_false] at ha
    rcases ha with rfl | rfl | rfl | rfl | rfl
    ·exact⟨fr _ (Ri _ _),by rw[hz];rfl⟩
    ·exact⟨fr _ (Ri _ _),by rw[hTO];rfl⟩
    ·exact⟨fr _ (Ri _ _),by rw[hTI];rfl⟩
    ·exact⟨fr _ (QZ _),by obtain⟨o,e,_⟩:=h1;rw[e];rfl⟩
    ·exact⟨fr _ (Ri _ _),by obtain⟨o,e,_⟩:=h2;rw[e];rfl⟩
   all_goals
    refine VR.more' (fun b o e=>P.keep _ _ (hk _ _ e)) (fun a ha=>?_) (by assumption)
    have fr:∀ b,XZ.heap.objs.size≤b→XZ.heap.get? b=none:=fun b hb=>by
     cases q:XZ.heap.get? b with
     | none=>rfl
     | some o=>exact absurd (Q1 q) (TG.mpr hb)
    rcases Qw.mp ha with ha | ha
    ·simp only[QJ,RV,or_false] at ha
     rcases ha with rfl | rfl | rfl | rfl | rfl
     ·exact fr _ (Ri _ _)
     ·exact fr _ (Ri _ _)
     ·exact fr _ (Ri _ _)
     ·exact fr _ (QZ _)
     ·exact fr _ (Ri _ _)
    ·cases q:XZ.heap.get? a with
     | none=>rfl
     | some o=>have z:=hY a ha;rw[hk _ _ q] at z;cases z
end
noncomputable def wu(k:Int):List Int→List Int
 | []=>[k]
 | a::r=>if k≤a then k::a::r else a::wu k r
theorem DN:wu k (a::r)=if k≤a then k::a::r else a::wu k r:=rfl
noncomputable def kq:List Int→List Int
 | []=>[]
 | a::r=>wu a (kq r)
noncomputable def ny:List Int→Int
 | []=>0
 | a::r=>if r.isEmpty then a else max a (ny r)
noncomputable def kC:List Int→Int
 | []=>0
 | a::r=>if r.isEmpty then a else min a (kC r)
theorem xt(k:Int):∀ l,(wu k l).Perm (k::l):=by
 intro a_
 induction a_ with
 | nil =>
  exact .refl _
 | cons a r ih =>
  rw[DN]
  split
  ·exact .refl _
  ·exact((ih).cons a).trans (.swap k a r)
theorem Cr:∀ l,(kq l).Perm l:=by
 intro a_
 induction a_ with
 | nil =>
  exact .refl _
 | cons a r ih =>
  exact(xt a _).trans ((ih).cons a)
theorem AL(k:Int):∀ l:List Int,l.Pairwise (·≤·)→(wu k l).Pairwise (·≤·):=by
 intro a_
 induction a_ with
 | nil =>
  intro _
  exact List.pairwise_singleton _ _
 | cons a r ih =>
  intro h
  have h':=Um.mp h
  rw[DN]
  split
  ·rename_i hk
   refine Um.mpr ⟨fun b hb=>?_,h⟩
   rcases QJ.mp hb with rfl | hb
   ·exact hk
   ·exact Rk hk (h'.1 b hb)
  ·rename_i hk
   refine Um.mpr ⟨fun b hb=>?_,ih h'.2⟩
   rcases QJ.mp ((xt k r).mem_iff.mp hb) with rfl | hb
   ·lia
   ·exact h'.1 b hb
theorem yP:∀ l,(kq l).Pairwise (·≤·):=by
 intro a_
 induction a_ with
 | nil =>
  exact .nil
 | cons a r ih =>
  exact AL a _ (ih)
theorem uy(p:l'.Perm l)(s:l'.Pairwise (·≤·)):l'=kq l :=
 List.Perm.eq_of_pairwise (le:=(·≤·)) (fun a b _ _ h1 h2=>Vc h1 h2) s (yP l) (p.trans (Cr l).symm)
theorem xu(l:List Int):l≠[]→ny l∈l∧∀ a∈l,a≤ny l:=by
 induction l with
 | nil=>exact fun h=>absurd rfl h
 | cons a r ih =>
  intro _
  cases r with
  | nil=>exact⟨.head _,fun x h=>Xi (Qu.mp h)⟩
  | cons b r =>
   refine bA (ih nofun) fun h1 h2=>?_
   show max a (ny (b::r))∈_∧∀ x∈_,x≤max a (ny (b::r))
   refine⟨?_,fun x hx=>?_⟩
   ·rcases Xj a (ny (b::r)) with h | h
    ·rw[Int.max_eq_right h];exact .tail _ h1
    ·rw[Int.max_eq_left h];exact .head _
   ·rcases QJ.mp hx with rfl | hx
    ·exact Int.le_max_left ..
    ·exact Rk (h2 x hx) (Int.le_max_right ..)
theorem xv(l:List Int):l≠[]→kC l∈l∧∀ a∈l,kC l≤a:=by
 induction l with
 | nil=>exact fun h=>absurd rfl h
 | cons a r ih =>
  intro _
  cases r with
  | nil=>exact⟨.head _,fun x h=>Xi (Qu.mp h).symm⟩
  | cons b r =>
   refine bA (ih nofun) fun h1 h2=>?_
   show min a (kC (b::r))∈_∧∀ x∈_,min a (kC (b::r))≤x
   refine⟨?_,fun x hx=>?_⟩
   ·rcases Xj a (kC (b::r)) with h | h
    ·rw[Int.min_eq_left h];exact .head _
    ·rw[Int.min_eq_right h];exact .tail _ h1
   ·rcases QJ.mp hx with rfl | hx
    ·exact Int.min_le_left ..
    ·exact Rk (Int.min_le_right ..) (h2 x hx)
theorem HW(h1:m∈l)(h2:∀ a∈l,a≤m):m=ny l:=by
 have s:=xu l (fun e=>by rw[e] at h1;cases h1)
 exact Vc (s.2 m h1) (h2 _ s.1)
theorem HX(h1:m∈l)(h2:∀ a∈l,m≤a):m=kC l:=by
 have s:=xv l (fun e=>by rw[e] at h1;cases h1)
 exact Vc (h2 _ s.1) (s.2 m h1)
theorem NQ(h:dh (fun l=>(ot l).bind jX) o k=some r):∃ i s,o=some ([.ref i],s)∧k i s=some r:=kW (g:=fun i=>[PV.ref i]) h fun e=>aH (mO e) fun _ a b=>tw b▸qY a
noncomputable def je(g:LF):EF:=fun ρ Xx=>dh (fun l=>(ot l).bind jX) (g ρ Xx) fun i XA=>d7 qz XA[i]? fun l=>if l.length<64 then some (.dat (.list ((kq (l.map (·.1))).map .int)),XA) else none
noncomputable def yh(g:LF):EF:=fun ρ Xx=>dh (fun l=>(ot l).bind jX) (g ρ Xx) fun i XA=>d7 qz XA[i]? fun l=>match l with
 | []=>none
 | a::l=>some (.dat (.int (ny ((a::l).map (·.1)))),XA)
theorem Ct(r:WK vs ns):Rf h vs (ns.map .int) []:=by
 induction r with
 | nil=>exact .nil
 | cons n t _ ih=>exact .cons (as:=[]) (.int n t) ih
theorem yQ{c:Cf}{m:List (Int×QM)}:∀ {vs:List QM},vs.length=m.length→(∀ (j:Nat) (v:QM),vs[j]?=some v→∃ k x,m[j]?=some (k,x)∧(Q5 c.prog c.w).is k v=true)→WK vs (m.map (·.1)):=by
 induction m with
 | nil=>intro vs e _;cases TU e;exact .nil
 | cons kx m ih =>
  intro vs e h
  cases vs with
  | nil=>cases e
  | cons v vs =>
   refine cz (h 0 v rfl) fun k' x' e1 e2=>?_
   cases e1
   cases v<;>try cases e2
   cases of_decide_eq_true e2
   exact .cons _ _ (ih (Td e) fun j u hu=>h (j+1) u hu)
theorem Cu(r:Rf h vs (ns.map .int) as):WK vs ns:=Dp (P:=WK) .nil (fun ih=>.cons _ _ ih) r
section
variable {d:Nat} {κ:Nm} {σ:List Str}
theorem Ft{c:Cf}{Xx:St}{i:Nat}(rm:Rm A 0)(v:cH c s.heap H XJ Xx)(ha:XJ[i]?=some a)(e:Xx[i]?=some (.idict l))(hl64:l.length<64):
  QS c.M A (call (.builtin "sorted") [.ref a.1] []) (iQ c H s XJ Xx (.dat (.list ((kq (l.map (·.1))).map .int)))) No s:=by
 revert A H XJ a l s c Xx i
 refine @tX _ _ _ _ _ _ _ _ _ _ (bi qy (bi nI (bi nI (bi nI (bi nI (bi kL (bi ox nI))))))) ?_
 generalize q1 _=A,q2 _=H,q3 _=XJ,q4 _=a,q5 _=l,q6 _=s,q7 _=c,q8 _=Xx,qe _=i
 intro rm v ha e hl64
 obtain⟨hq,hl,lo,m,g,R⟩:=iV v ha e
 rw[hq]
 refine bM (g.dictAt) fun ep hat=>?_
 have XQ:=R.len
 refine call_function_entry kind_sorted plain_sorted entry_sorted (args_sorted1 _) ?_
 refine Qr (m:=checkCount "sorted" 1 1 _) (QB ?_)
 refine Qr (kdu_collect (A:=A.in1) (kdl_dict (knd:=Q5 c.prog c.w) (kvs:=m) (ep:=ep) lo) rm.handled hat (by rw[Vt];lia) fun h' tk acc hk hacc=>?_)
 have hn:acc.toList.length=m.length:=by rw[SN];exact hacc.1
 have hI:WK acc.toList (m.map (·.1)):=yQ (c:=c) hn fun j u hu=>hacc.2 j u (by rw[← Array.getElem?_toList];exact hu)
 refine Qr (wpAny_newList ?_ (by rw[hn,Vt];lia))
 have ho:(h'.push { cls:=.type "list",data:=.seq acc.toList.toArray }).get? h'.objs.size=some (seqObj "list" acc.toList.toArray 0):=QI _ rfl
 refine Qr (Rd (UM slot_list_sort ⟨_,ho,rfl⟩ entry_list_sort (list_sort_tree ho hI (by rw[hn,← XQ];exact hl64) fun out ns' a1 a2 a3=>⟨_,rfl,?_⟩) (args_list_sort _)))
 refine QB ⟨_,rfl,?_⟩
 have es:ns'=kq (l.map (·.1)):=uy (by rw[← R.keys];exact a2) a3
 subst es
 have old:∀ b o,s.heap.get? b=some o→(sortedHeap (h'.push { cls:=.type "list",data:=.seq acc.toList.toArray }) h'.objs.size acc.toList out).get? b=some o:=fun b o eb=>by
  have hb:=hk b o eb
  have hlt:b<h'.objs.size:=Q1 hb
  rw[sortedHeap_old (Rq hlt) (by rw[size_push'];exact SJ hlt),Heap.get?_push_ne _ _ _ (Rq hlt)]
  exact hb
 refine bM (sortedHeap_at (n:=0) (vs:=acc.toList) (out:=out) ho) fun n' hat'=>?_
 have P:ez s { s with heap:=sortedHeap (h'.push { cls:=.type "list",data:=.seq acc.toList.toArray }) h'.objs.size acc.toList out,toks:=tk }:=⟨old,_,_,rfl⟩
 refine .pst v P ⟨_,.list (TN _ hat' fun hm=>?_) rfl rfl (Ct a1)⟩
 refine bM (Qy.mp (v.live _ hm)) fun o eo=>?_
 exact Ti _ (Q1 (hk _ _ eo))
theorem nV(L:fL d κ σ es g)(hx:kw.lookup ("sorted":Str)=some none:=by kernel_rfl)(hb:Rp "sorted"=some (.builtin "sorted"):=by decide +kernel)(hp:gy es=true:=by rfl)(hk:κ.lookup ("sorted":Str)=some .globalImplicit:=by kernel_rfl):
  bG d κ σ (.Call (.Name "sorted" p₀) es [] pos) (je g):=fun {c A env H XJ ρ Xx s} r y p XK h=>by
 refine cz (NQ h) fun i XA hg h=>?_
 ·refine aH (mK h) fun l e h=>?_
  refine bA (mI h) fun h64 h=>?_
  refine bA (dg h) fun XV XW=>?_
  subst XV XW
  refine oI (gT hx) hb (eF hp) r y L hg (fun vs XZ XE x1 V=>?_) (by decide) hk (by decide)
  refine V.e1 fun _ v e_=>?_
  subst e_
  refine aH (v.ref) fun a ha XX=>?_
  subst XX
  exact br (Ft (r.le (Ry _)) x1.inv ha e h64) fun u t z=>.next x1 z
theorem HY{Xx:St}{i:Nat}(rm:Rm A 0)(v:cH c s.heap H XJ Xx)(ha:XJ[i]?=some a)(e:Xx[i]?=some (.idict l))(XU:l≠[]):
  QS c.M A (call (.builtin "max") [.ref a.1] []) (iQ c H s XJ Xx (.dat (.int (ny (l.map (·.1)))))) No s:=by
 revert A c H XJ a l s Xx i
 refine @tX _ _ _ _ _ _ _ _ _ _ (bi qy (bi ox (bi nI (bi nI (bi nI (bi nI (bi kL nI))))))) ?_
 generalize q1 _=A,q2 _=c,q3 _=H,q4 _=XJ,q5 _=a,q6 _=l,q7 _=s,q8 _=Xx,qe _=i
 intro rm v ha e XU
 obtain⟨hq,hl,lo,m,g,R⟩:=iV v ha e
 rw[hq]
 obtain⟨ep,hat⟩:=g.dictAt
 have XQ:=R.len
 have hpos:0<m.length:=by rw[← XQ];exact Tg.mpr XU
 have hlt:a.2<s.heap.objs.size:=hat.lt_size
 let val:Nat→Int:=fun j=>(m.map (·.1)).getD j 0
 refine call_max_walk (wpAny_pyIter_dict lo hat ⟨_,_,_,_,_,_,_,rfl,Walks.dictKeys (A:=A.in1) rm.handled _ a.2 (Rq hlt) m ep,⟨⟨_,QI _ rfl,rfl,rfl⟩,hat.push _⟩,fun b hb=>?_,hpos,
  CmpOf.ints_gt val (fun j u hu=>?_),fun u h' tk hP hk=>?_⟩)
 ·show b<(s.heap.push _).objs.size
  rw[Ul]
  rcases QJ.mp hb with rfl | hb
  ·exact Sk _
  ·rw[Qu.mp hb];exact SJ hlt
 ·obtain⟨k,x,e1,e2⟩:=hu
  have hv:val j=k:=by show(m.map (·.1)).getD j 0=k;rw[Un,Q7,e1];rfl
  rw[hv]
  cases u<;>simp[Q5,Uw] at e2
  exact⟨_,by rw[e2]⟩
 ·obtain⟨h1,h2⟩:=argBest_gt val (m.length - 1)
  obtain⟨k,x,e1,e2⟩:=hP
  have hv:val (argBest (fun i j=>decide (val i>val j)) (m.length - 1))=k:=by
   show(m.map (·.1)).getD _ 0=k
   rw[Un,Q7,e1];rfl
  obtain⟨t,rfl⟩:∃ t,u=.int k t:=by
   cases u<;>simp[Q5,Uw] at e2
   exact⟨_,by rw[e2]⟩
  have hk':k=ny (l.map (·.1)):=by
   rw[← R.keys]
   refine HW ?_ fun a' ha'=>?_
   ·exact QL.mpr ⟨_,QU e1,rfl⟩
   ·obtain⟨j,hj,rfl⟩:=mem_getD ha'
    rw[Qs] at hj
    rw[← hv]
    exact h2 j zY
  rw[← hk']
  refine .pst v ⟨fun b o eb=>hk b o (fun hm=>?_) (Qz _ eb),_,_,rfl⟩ ⟨[],.int _ _⟩
  rw[Qu.mp hm] at eb
  exact Ti _ (Q1 eb)
theorem DO(L:fL d κ σ es g)(hx:kw.lookup ("max":Str)=some none:=by kernel_rfl)(hb:Rp "max"=some (.builtin "max"):=by decide +kernel)(hp:gy es=true:=by rfl)(hk:κ.lookup ("max":Str)=some .globalImplicit:=by kernel_rfl):
  bG d κ σ (.Call (.Name "max" p₀) es [] pos) (yh g):=fun {c A env H XJ ρ Xx s} r y p XK h=>by
 refine cz (NQ h) fun i XA hg h=>?_
 refine aH (mK h) fun l e h=>?_
 cases l with
 | nil=>exact dK h
 | cons a0 l =>
   refine bA (dg h) fun XV XW=>?_
   subst XV XW
   refine oI (gT hx) hb (eF hp) r y L hg (fun vs XZ XE x1 V=>?_) (by decide) hk (by decide)
   refine V.e1 fun _ v e_=>?_
   subst e_
   refine aH (v.ref) fun a ha XX=>?_
   subst XX
   exact br (HY (r.le (Ry _)) x1.inv ha e (by simp)) fun u t z=>.next x1 z
end
noncomputable def tG(l:List QC):Option QC:=(ot l).bind fun d=>(Ds d).bind fun xs=>(oJ xs).bind fun l=>match l with
 | []=>none
 | a::l=>some (.int (kC (a::l)))
theorem Fu:vo (.builtin "min") tG:=fun {c A H s vs ds r as} rm R hl h=>by
 refine aH (mO h) fun d hd h1=>?_
 refine aH (mO h1) fun xs hxs h2=>?_
 refine aH (mO h2) fun l hi h3=>?_
 cases qY hd
 cases B4 hxs
 cases l with
 | nil=>exact dK h3
 | cons a0 l =>
  obtain rfl:=cE h3
  have hxs:=xp hi
  subst hxs
  cases R with
  | cons r1 R =>
   cases R
   refine iM (DR.list (h:=s.heap) (H:=H) ⟨_,r1⟩) fun l' us bs e_3 L R1=>?_
   subst e_3
   have hI:=Cu R1
   refine bM (hI.allInts.items) fun ys e=>?_
   have hns:a0::l=ys.toList.map (·.1):=by rw[← hI.numsOf,← nums_intItems,← e]
   have hsz:0<ys.size:=by
    have h3:=congrArg Vv hns
    rw[Qs,SN] at h3
    have:0<ys.toList.length:=by rw[← h3];exact U5 _
    simpa using this
   rw[e] at L
   refine min_intList rm.handled L hsz fun v h' tk hv hk=>?_
   refine bM (intItems_at hv) fun t XW=>?_
   subst XW
   refine bA (argBest_lt (numAt ys) (ys.size - 1)) fun h1 h2=>?_
   refine⟨⟨hk,_,_,rfl⟩,[],?_⟩
   have:=HX (l:=a0::l) (m:=numAt ys (argBest (fun i j=>decide (numAt ys i<numAt ys j)) (ys.size - 1))) ?_ fun a ha=>?_
   ·rw[← this];exact .int _ _
   ·rw[hns,numAt_eq];exact PySem.getD_mem (by rw[Qs,SN];exact Pk)
   ·rw[hns] at ha
    refine aH (mem_getD ha) fun j hj XX=>?_
    subst XX
    rw[Qs,SN] at hj
    rw[← numAt_eq];exact h2 j zY
section
variable {prog:Uv} {w:World} {A:R7} {E:QM→QR→Prop}
theorem DP(XU:t≠it):∀ (n i:Nat) (s:QR) (Q:List QM→QR→Prop),s.heap.IsListIter it t i→s.heap.IsList t items→i+n≤items.size →
  (∀ h',h'.IsListIter it t (i+n)→SU it s.heap h'→Q ((items.toList.drop i).take n) { s with heap:=h' })→QS (model prog w) A (draw (.ref it) n) Q E s:=by
 intro a_
 induction a_ with
 | zero =>
  intro i s Q hit _ _ hQ
  show QS _ _ (pure []) Q E s
  exact QB (by simpa using hQ s.heap hit (Heap.SameBut.refl ..))
 | succ n ih =>
  intro i s Q hit ht hle hQ
  have hlt:i<items.size:=by lia
  show QS _ _ (Xd (.ref it) >>=_) Q E s
  refine Qr (Tz hit ht (x:=items[i]) (by simp[hlt]) fun h₁ hit₁ hs₁=>?_)
  refine Qr (Rd (ih (i+1) _ _ hit₁ (ht.extBut hs₁.extBut XU) (by lia) fun h₂ hit₂ hs₂=>QB ?_))
  have hd:items.toList.drop i=items[i]::items.toList.drop (i+1):=by simp[Ut,hlt]
  have:=hQ h₂ (by rw[show i+(n+1)=i+1+n by lia];exact hit₂) (hs₁.trans hs₂)
  rw[hd,List.take_succ_cons] at this
  exact this
theorem tU (hh:A.handled=none) (ht:s.heap.IsList t items)
  (hn:(TJ elts env).length=items.size) (hstar:(TJ elts env).findIdx? (·.1)=none)
  (h:∀ h',Tr s.heap.objs.size s.heap h'→QS (model prog w) A (UD ((TJ elts env).map (·.2)) items.toList) Q E { s with heap:=h' }) :
  QS (model prog w) A (TH (.Tuple elts x1 pos) env (.ref t)) Q E s:=by
 revert prog w A E elts env Q s x1 pos t items
 refine @p9 _ _ _ _ _ _ _ _ _ _ _ _ _ (bi nI (bi yr (bi qy (bi nI (bi nI (bi nI (bi nI (bi kL nI)))))))) ?_
 generalize q1 _=prog,q2 _=w,q3 _=A,q4 _=E,q5 _=elts,q6 _=env,q7 _=Q,q8 _=s,q9 _=x1,lI _=pos,qx _=t,qe _=items
 intro hh ht hn hstar h
 rw[assign_Tuple]
 refine Qr (RI ?_)
 unfold unpack
 rw[hn,hstar]
 refine Qr (Rd ?_)
 have hlt:t≠s.heap.objs.size:=by obtain⟨o,ho,_⟩:=ht;exact Rq (Q1 ho)
 refine Qr ?_
 refine Qr (Sy ht.typeIs slot_list_iter.lookup ?_)
 refine QB ?_
 simp only[RD,if_false]
 refine Qr (Rd (Uz ht ?_))
 refine Qr (Rd (DP hlt items.size 0 _ _ ⟨_,QI _ rfl,rfl,rfl⟩ (Te ht _) (by lia) fun h₁ hit₁ hs₁=>?_))
 have hall:List.take items.size (List.drop 0 items.toList)=items.toList:=by
  rw[List.drop_zero];exact U6 (by simp)
 rw[hall]
 rw[if_neg (by simp)]
 have ht₁:h₁.IsList t items:=(Te ht _).extBut hs₁.extBut hlt
 refine Qr (Rd (TC hh hit₁ ht₁ (by simp) fun h₂ he₂=>?_))
 simp only[Option.isSome_none,RD,if_false]
 exact QB (h h₂ fun b o hb e=>he₂ b o hb (hs₁.extBut b o hb (Qz _ e)))
end
noncomputable def Cw(is:List Nat)(f:EF):SF:=fun ρ Xx=>dh jX (f ρ Xx) fun k XA=>d7 kM XA[k]? fun l=>(jd is l ρ).map fun X6=>(.next,X6,XA)
section
variable {d:Nat} {κ:Nm} {σ:List Str}
theorem DQ (XZ:bG d κ σ e f) (N:gN ve κ σ es is) (nd:σ.Nodup:=by decide +kernel)
  (hs:(fun env=>UF [.Tuple es k p₁] e p₃.line env)=fun env=>pure false:=by rfl) (hw:(fun(env:Env)=>S0 [.Tuple es k p₁] e env)=fun env=>pure none:=by rfl) :
  io d κ σ (.Assign [.Tuple es k p₁] e p₃) (Cw is f):=fun {c A env H XJ ρ Xx s} r y fl Yg XK h=>by
 refine cz (mR h) fun n XA h1 h=>?_
 refine aH (mA h) fun l e h=>?_
 ·refine aH (Qx.mp h) fun X6 h2 e'=>?_
  cases e'
  refine V7 (br (XZ r y _ _ h1) fun v XZ z=>aH z fun XE x1 q=>?_) (congrFun hs env) (congrFun hw env)
  refine cps fun G kG=>?_
  refine aH (q.ref) fun a ha XX=>?_
  subst XX
  obtain⟨p,e1,hq,hl,vs,ep,g,V⟩:=x1.inv.rep.objs n _ e
  refine kG ?_
  rw[ha] at e1;cases e1
  have hl:is.length=vs.length:=(k0 h2).trans V.length
  refine tU r.handled (items:=QW vs) ⟨_,hq▸g,rfl,ep,rfl⟩ (by rw[(N.len env).1,hl];simp) (N.len env).2 fun h' he=>?_
  have P:ez XZ { XZ with heap:=h' }:=⟨fun b o e=>he b o (Rq (Q1 e)) e,_,_,rfl⟩
  have S:=P.stp x1.inv
  have T:=x1.trans S
  exact br (mx (fun y=>(bP.refl y.inv).own y) (fun hi hk y a=>iR y hi nd (ty hk) a) N (y.step T) (S.vrs V) h2) fun _ s' z=>bA z fun S₂ E₂=>⟨_,(T.own y).trans S₂,E₂,trivial⟩
end
noncomputable def yi(n:Nat)(f:EF):EF:=fun ρ Xx=>dh xd (f ρ Xx) fun xs XA=>if small xs then some (.dat (.list (xs.take n)),XA) else none
noncomputable def vw(n:Nat)(f:EF):EF:=fun ρ Xx=>dh xd (f ρ Xx) fun xs XA=>if small xs then some (.dat (.list (xs.drop n)),XA) else none
theorem xW(n:Nat):∀ {vs:List QM} {xs:List QC} {as:List Addr},Rf h vs xs as→∃ bs,Rf h (vs.take n) (xs.take n) bs:=by
 induction n with
 | zero=>intro _ _ _ _;exact⟨[],.nil⟩
 | succ n ih=>intro _ _ _ r;cases r with | nil=>exact⟨[],.nil⟩ | cons a r=>exact bM (ih r) fun _ z=>⟨_,.cons a z⟩
theorem xX(n:Nat):∀ {vs:List QM} {xs:List QC} {as:List Addr},Rf h vs xs as→∃ bs,Rf h (vs.drop n) (xs.drop n) bs:=by
 induction n with
 | zero=>intro _ _ _ r;exact⟨_,r⟩
 | succ n ih=>intro _ _ _ r;cases r with | nil=>exact⟨[],.nil⟩ | cons a r=>exact ih r
section
variable {d:Nat} {κ:Nm} {σ:List Str}
theorem xw {Xx:St} {lo hi:Option Int} (i:cH c s.heap H XJ Xx) (L:s.heap.IsList l (QW vs)) (hs:s.heap.IsSliceOf sl vl vu .none) (pl:IsPart vl lo) (pu:IsPart vu hi)
  (hp:slicePick (QW vs) lo hi none=QW ws) (R:∃ bs,Rf (Tv s.heap (H++ow XJ)) ws ys bs) (hsz:vs.length≤2 ^ 20):QS c.M A (getItem (.ref l) (.ref sl)) (iQ c H s XJ Xx (.dat (.list ys))) No s:=by
 refine wpAny_getItem_list_slice L hs pl pu .none (by simp) ?_ (by rw[Ru];exact QH hsz (by decide))
 rw[hp]
 refine bM (R) fun bs R=>?_
 refine .pst i ip ⟨_::bs,.list (mQ i.live rfl) rfl rfl ?_⟩
 exact Sq (fun b o e=>(eg.hide (H':=H++ow XJ) fun b o e n=>⟨Qz _ e,n⟩) b o e) (by simpa using R)
theorem DS{n:Nat}(XZ:bG d κ σ value f)(ht:(fun o r=>Vs value o r)=fun o r=>pure ():=by rfl):
  bG d κ σ (.Subscript value (.Slice none (some (.Constant (.int (n:Int)) k p₀)) none p) pos) (yi n f):=fun {c A env H XJ ρ Xx s} r y q XK h=>by
 refine cz (mL h) fun xs XA h1 h=>?_
 refine cps fun G kG=>?_
 refine bA (mI h) fun hs h=>?_
 cases h
 refine kG ?_
 refine Vj VH (br (XZ r y _ _ h1) fun v XZ z=>aH z fun XE x1 q=>?_) (kY ht)
 refine iM (DR.list q) fun l vs as e_3 L R=>?_
 subst e_3
 have hl:=(dj R).length
 simp only[Qs] at hl
 refine wpAny_Slice ?_
 rw[evalPart_none]
 refine QB ?_
 rw[evalPart_some]
 refine Uh ?_
 refine QB ?_
 have L':=Te L { cls:=.type "slice",data:=.fields #[.none,.int (n:Int) XZ.toks,.none] }
 refine⟨L'.typeIs,?_⟩
 have P:ez XZ { XZ with heap:=XZ.heap.push { cls:=.type "slice",data:=.fields #[.none,.int (n:Int) XZ.toks,.none] },toks:=XZ.toks+1 }:=⟨fun b o e=>Qz _ e,_,_,rfl⟩
 refine br (xw (P.stp x1.inv).inv L' (VW ..) .none (.int _ _) (by rw[slicePick_upto']) (xW n (Sq (fun b o e=>(eg.hide (H':=H++ow XE) fun b o e n=>⟨P.keep b o e,n⟩) b o e) R)) (by rw[← hl];exact of_decide_eq_true hs)) fun u t z=>.next (x1.trans (P.stp x1.inv)) z
theorem DT{n:Nat}(XZ:bG d κ σ value f)(ht:(fun o r=>Vs value o r)=fun o r=>pure ():=by rfl):
  bG d κ σ (.Subscript value (.Slice (some (.Constant (.int (n:Int)) k p₀)) none none p) pos) (vw n f):=fun {c A env H XJ ρ Xx s} r y q XK h=>by
 refine cz (mL h) fun xs XA h1 h=>?_
 refine cps fun G kG=>?_
 refine bA (mI h) fun hs h=>?_
 cases h
 refine kG ?_
 refine Vj VH (br (XZ r y _ _ h1) fun v XZ z=>aH z fun XE x1 q=>?_) (kY ht)
 refine iM (DR.list q) fun l vs as e_3 L R=>?_
 subst e_3
 have hl:=(dj R).length
 simp only[Qs] at hl
 refine wpAny_Slice ?_
 rw[evalPart_some]
 refine Uh ?_
 rw[evalPart_none]
 refine QB ?_
 refine QB ?_
 have L':=Te L { cls:=.type "slice",data:=.fields #[.int (n:Int) XZ.toks,.none,.none] }
 refine⟨L'.typeIs,?_⟩
 have P:ez XZ { XZ with heap:=XZ.heap.push { cls:=.type "slice",data:=.fields #[.int (n:Int) XZ.toks,.none,.none] },toks:=XZ.toks+1 }:=⟨fun b o e=>Qz _ e,_,_,rfl⟩
 refine br (xw (P.stp x1.inv).inv L' (VW ..) (.int _ _) .none (by rw[slicePick_from']) (xX n (Sq (fun b o e=>(eg.hide (H':=H++ow XE) fun b o e n=>⟨P.keep b o e,n⟩) b o e) R)) (by rw[← hl];exact of_decide_eq_true hs)) fun u t z=>.next (x1.trans (P.stp x1.inv)) z
end
theorem HZ:typeLookup (.type "list_reverseiterator") "__len__"=pure none:=by rw[typeLookup_type,Vk];kernel_rfl
theorem DU:typeLookup (.type "list_reverseiterator") "__length_hint__"=pure (some (.builtin "list_reverseiterator.__length_hint__")):=by rw[typeLookup_type,Vk];kernel_rfl
section
variable {prog:Uv} {w:World} {A:R7} {E:QM→QR→Prop} {s:QR}
theorem Fv(hT:s.TypeIs (.ref r) "list_reverseiterator")(h:Q false s):QS (model prog w) A (Builtin.List.listLengthHint (.ref r)) Q E s:=by
 revert prog w A E s r Q
 refine @jV _ _ _ _ _ _ _ _ (bi nI (bi yr (bi qy (bi nI (bi kL nI))))) ?_
 generalize q1 _=prog,q2 _=w,q3 _=A,q4 _=E,q5 _=s,q6 _=r,qe _=Q
 intro hT h
 refine Qr (Sy hT HZ ?_)
 wp_delta
 refine SZ (fun hab=>absurd hab (by decide)) (fun _=>?_)
 refine SZ (fun hab=>absurd hab (by decide)) (fun _=>?_)
 refine Qr (Sy hT DU ?_)
 generalize hid:("list_reverseiterator.__length_hint__":String)=id0
 wp_delta
 rw[show splitId id0=some ("list_reverseiterator","__length_hint__") from by subst hid;decide +kernel]
 subst hid
 refine Qr (UO (T:="list_reverseiterator") (b:=true) hT (by rw[isSubtype_type];kernel_rfl) ?_)
 refine SZ (fun hab=>absurd hab (by decide)) (fun _=>?_)
 refine SZ (fun _=>?_) (fun hab=>absurd (by decide +kernel) hab)
 refine SZ (fun hab=>absurd hab (by decide +kernel)) (fun _=>?_)
 exact QB h
theorem Cx (hh:A.handled=none) (hit:s.heap.IsRevIter r l ((items.size:Int) - 1)) (hl:s.heap.IsList l items) (XU:l≠r) (S:Addr) (hSr:S≠r) (hSl:S≠l) (res:QM) (c₀:Nat) (hS:s.heap.get? S=some { cls:=.type "list",data:=.seq #[] c₀ })
  (hR:∀ h' tk XN c',(∀ b o,b≠S→b≠r→s.heap.get? b=some o→h'.get? b=some o)→h'.get? S=some { cls:=.type "list",dict:=none,data:=.seq XN c',slots:=#[] }→ItemsOf (fun i v=>items[items.size - 1 - i]?=some v) XN items.size→R (.ok (.ret res)) { s with heap:=h',toks:=tk }) (hn:items.size≤sizeLine) :
  QS (model prog w) A.in1 (S6 (.ref S) (.ref r) res)
   (fun fin s'=>match fin with | .done f=>R (.ok f) s' | .again c'=>c'.quiet=true∧U0 (model prog w) A c' R s') (fun e s'=>R (.error e) s') s:=by
 have W:=Walks.listRev (prog:=prog) (w:=w) (A:=A.in1) hh r l XU items
 have hSf:S∉[r,l]:=by simp only[QJ,RV,or_false,not_or];exact⟨hSr,hSl⟩
 refine Qr (wpAny_typeOf (T:="list_reverseiterator") hit.typeIs ?_)
 have h1:UI (.ref S) (.ref r)=false:=by simp[UI,hSr]
 have n1:(U7 "list_reverseiterator"==U7 "list")=false:=by decide
 have n2:(U7 "list_reverseiterator"==U7 "tuple")=false:=by decide
 simp only[h1,n1,n2,W3,RD,if_false]
 refine Qr (wpAny_pyIter_revIter hit ?_)
 refine Qr (Rd (Fv hit.typeIs ?_))
 refine SZ (fun hab=>absurd hab (by decide +kernel)) (fun _=>?_)
 refine QB ⟨plainId_quiet PySem.F.plain_extend_loop _,?_⟩
 refine codeAny_extend_loopS W.toS hn S hSf res items.size 0 _ #[] c₀ rfl (Ry _) ⟨Ry _,by simpa using hit,hl⟩ hS (ItemsOf.nil _) fun s' XN c' hm hS' hacc=>?_
 rw[Moved.eq_with hm]
 refine hR s'.heap s'.toks XN c' (fun b o hb hbr e=>hm.heap b o (fun hmem=>?_) e) hS' hacc
 rcases QJ.mp hmem with e' | hmem
 ·exact hb e'
 ·exact hbr (Qu.mp hmem)
theorem DV{items acc:Array QM}(h:ItemsOf (fun i v=>items[items.size - 1 - i]?=some v) acc items.size):acc=items.toList.reverse.toArray:=by
 refine bA (h) fun h1 h2=>?_
 refine Array.ext (by simpa using h1) fun i hi hj=>?_
 have this:items[items.size - 1 - i]?=some acc[i]:=h2 i acc[i] (by simp[hi])
 have lt:items.size - 1 - i<items.size:=by omega
 rw[Ur lt] at this
 simp only[List.getElem_toArray,List.getElem_reverse,SN,Array.getElem_toList]
 exact(Rr this).symm
theorem xY {l:Addr} (hh:A.handled=none) (hl:s.heap.IsList l items) (hn:items.size≤sizeLine)
  (hQ:∀ h' tk c' D,(∀ b o,s.heap.get? b=some o→h'.get? b=some o)→s.heap.get? D=none→h'.get? D=some { cls:=.type "list",dict:=none,data:=.seq items.toList.reverse.toArray c',slots:=#[] }→Q (.ref D) { s with heap:=h',toks:=tk }) :
  QS (model prog w) A (call (.type "reversed") [.ref l]) (fun v XZ=>QS (model prog w) A (call (.type "list") [v]) Q E XZ) E s:=by
 revert prog w A E s items Q l
 refine @mG _ _ _ _ _ _ _ _ _ (bi nI (bi yr (bi qy (bi nI (bi kL nI))))) ?_
 generalize q1 _=prog,q2 _=w,q3 _=A,q4 _=E,q5 _=s,q6 _=items,q7 _=Q,qe _=l
 intro hh hl hn hQ
 refine call_reversed_list hl ?_
 generalize hs1:({ s with heap:=s.heap.push (revObj l ((items.size:Int) - 1)) }:QR)=XZ
 have hh1:XZ.heap=s.heap.push (revObj l ((items.size:Int) - 1)):=by rw[← hs1]
 have hsz:XZ.heap.objs.size=s.heap.objs.size+1:=by rw[hh1,Ul]
 have hit:XZ.heap.IsRevIter s.heap.objs.size l ((items.size:Int) - 1):=by rw[hh1];exact⟨_,QI _ rfl,rfl,rfl⟩
 have A7:XZ.heap.IsList l items:=by rw[hh1];exact Te hl _
 have lt:l<s.heap.objs.size:=by obtain⟨o,e,_⟩:=hl;exact Q1 e
 refine callType_codes (Q₁:=fun obj X0=>obj=.ref XZ.heap.objs.size∧X0={ XZ with heap:=XZ.heap.push { cls:=.type "list",data:=.seq #[] } }) PySem.F.called_list (PySem.F.typeCall_list_1 _) PySem.F.entry_list_init
  (code_list_new _ ⟨rfl,rfl⟩) fun obj X0 h₂=>?_
 obtain⟨rfl,rfl⟩:=h₂
 have hS:(XZ.heap.push { cls:=.type "list",data:=.seq #[] }).get? XZ.heap.objs.size=some { cls:=.type "list",data:=.seq #[] }:=QI _ rfl
 have old:∀ b o,s.heap.get? b=some o→(XZ.heap.push { cls:=.type "list",data:=.seq #[] }).get? b=some o:=fun b o e=>Qz _ (by rw[hh1];exact Qz _ e)
 refine⟨⟨_,hS,rfl⟩,PySem.F.args_list_init_2 _ _,?_⟩
 show QS _ _ (do let old ← Builtin.List.listItems (.ref XZ.heap.objs.size);Builtin.List.listUpdate (.ref XZ.heap.objs.size) (fun _=>#[]);letGo old.toList.reverse;S6 (.ref XZ.heap.objs.size) (.ref s.heap.objs.size) .none) _ _ _
 refine Qr ?_
 refine Qr (Vq hS rfl (QB ?_))
 show QS _ _ (updateSeq XZ.heap.objs.size (fun _=>#[]) >>=fun _=>letGo (#[]:Array QM).toList.reverse >>=fun _=>S6 (.ref XZ.heap.objs.size) (.ref s.heap.objs.size) .none) _ _ _
 refine Qr (wpAny_updateSeq hS rfl ?_)
 obtain⟨c0,hS₂⟩:∃ c0,((XZ.heap.push { cls:=.type "list",data:=.seq #[] }).update XZ.heap.objs.size (To (fun _=>(#[]:Array QM)))).get? XZ.heap.objs.size=some { cls:=.type "list",data:=.seq #[] c0 }:=⟨_,Sv (To (fun _=>(#[]:Array QM))) hS rfl⟩
 have oth:∀ b o,b≠XZ.heap.objs.size→XZ.heap.get? b=some o→((XZ.heap.push { cls:=.type "list",data:=.seq #[] }).update XZ.heap.objs.size (To (fun _=>(#[]:Array QM)))).get? b=some o :=
  fun b o hb e=>(Heap.get?_update_other _ _ (Tc hb)).trans (Qz _ e)
 have ne1:s.heap.objs.size≠XZ.heap.objs.size:=by rw[hsz];exact Rq (Sk _)
 have ne2:l≠XZ.heap.objs.size:=by rw[hsz];exact Rq (SJ lt)
 refine Qr (wpAny_letGo ?_)
 refine Cx (A:=A.in1) (s:={ XZ with heap:=(XZ.heap.push { cls:=.type "list",data:=.seq #[] }).update XZ.heap.objs.size (To (fun _=>(#[]:Array QM))) }) (l:=l) (items:=items) hh (hit.at fun o e=>oth _ o ne1 e) (A7.at fun o e=>oth _ o ne2 e) (Rq lt) _ (Tc ne1) (Tc ne2) .none _ hS₂ (fun h' tk XN c' hk hS' hacc=>?_) hn
 rw[DV hacc] at hS'
 subst hs1
 refine⟨rfl,hQ h' tk c' _ (fun b o e=>?_) ?_ hS'⟩
 ·have hb:b<s.heap.objs.size:=Q1 e
  exact hk b o (by rw[hsz];exact Rq (SJ hb)) (Rq hb) (oth b o (by rw[hsz];exact Rq (SJ hb)) (by rw[hh1];exact Qz _ e))
 ·cases q:s.heap.get? _ with
  | none=>rfl
  | some o=>exact absurd (Q1 q) (TG.mpr (by rw[hsz];exact TR _))
end
noncomputable def Cy(g:LF):EF:=fun ρ Xx=>dh (fun l=>(ot l).bind xd) (g ρ Xx) fun xs XA=>if small xs then some (.ref XA.length,XA++[.list (xs.reverse.map .dat)]) else none
noncomputable def yR:=Fg fun a=>.int a
theorem H3:vo (.type "int") yR:=GS fun c A H s a t rm=>call_int_int ⟨.refl,[],.int _ _⟩
noncomputable def KC:QC→Option Bool
 | .none=>none
 | .bool _=>some true
 | .int _=>some false
 | .str _=>none
 | .list _=>none
 | .tuple _=>some false
 | .dict _=>none
noncomputable def qE(f:EF):TF:=fun ρ Xx=>dh gK (f ρ Xx) fun d XA=>(KC d).map fun b=>(b,XA)
noncomputable def vx(i:Nat)(ps:List PV)(Xx:St):Option (PV×St):=match ps with
 | []=>d7 kM Xx[i]? fun l=>l.getLast?.bind fun p=>some (p,Xx.set i (.list l.dropLast))
 | _::_=>none
noncomputable def wv:=rU fun a b=>if 0≤b then some (.int (a.fdiv (2 ^ b.toNat))) else none
theorem DW:jY (Ui .RShift) wv:=iE fun c A H s i j t u r h=>by
 obtain⟨hm,rfl⟩:=lT h
 exact PyProof.Rows.rshift_int hm ⟨.tok,[],.int _ _⟩
theorem cG.dropLast(r:cG h H XJ ps vs):cG h H XJ ps.dropLast vs.dropLast:=by
 induction r with
 | nil=>exact .nil
 | @cons p v ps vs a r ih =>
  cases r with
  | nil=>exact .nil
  | cons b r=>exact .cons a ih
theorem DX:wo "list.pop" vx:=fun {c A H XJ Xx s i a} r v ha ps vs V p XK h=>by
 refine cps fun G2 Yl=>?_
 cases ps with
 | cons=>exact dK h
 | nil =>
  refine aH (mA h) fun l e h=>?_
  refine aH (mO h) fun p' hp h=>?_
  ·refine bA (dg h) fun XV XW=>?_
   subst XV XW
   obtain⟨q,e1,hq,hl',us,ep,g,U⟩:=v.rep.objs i _ e
   refine Yl ?_
   rw[ha] at e1;cases e1
   cases V
   rw[hq]
   have XQ:=U.length
   rw[List.getLast?_eq_getElem?] at hp
   refine aH (U.get hp) fun u hu hr=>?_
   have hu':(QW us)[(QW us).size - 1]?=some u:=by simpa [XQ] using hu
   refine call_meets Vl (T:="list") ⟨_,g,rfl⟩ PySem.F.entry_list_pop (PySem.F.args_list_pop_1 _) (MeetsSeq.list_pop_last a.2 (QW us) ep u hu' (by rw[Ru,← XQ];exact QH hl' (by decide))) ⟨g,?_⟩
   have hx:((QW us).eraseIdxIfInBounds ((QW us).size - 1))=us.dropLast.toArray:=by
    have XU:us≠[]:=by rintro rfl;simp at hu
    have hpos:0<us.length:=Tg.mpr XU
    have:(QW us).size - 1<(QW us).size:=by simp;exact NC
    rw[Array.eraseIdxIfInBounds,dif_pos this]
    simp
   refine bM (sA (QW us) ep fun xs=>xs.eraseIdxIfInBounds ((QW us).size - 1)) fun n' hd'=>?_
   have g':(s.heap.update a.2 (To fun xs=>xs.eraseIdxIfInBounds ((QW us).size - 1))).get? a.2=some ⟨.type "list",none,.seq us.dropLast.toArray n',#[]⟩:=by
    rw[Sv _ g (by rw[hd'];rfl),hd',hx]
   have hs:SU a.2 s.heap (s.heap.update a.2 (To fun xs=>xs.eraseIdxIfInBounds ((QW us).size - 1))):=SM ..
   have S:=v.updStp (t:=s.toks) ha hs.extBut (o':=.list l.dropLast) ⟨hq,by simp;omega,us.dropLast,n',g',(U.upd ha hs.extBut).dropLast⟩
   exact⟨_,S,hr.upd ha hs.extBut⟩
section
variable {d:Nat} {κ:Nm} {σ:List Str}
theorem yS (hx:∀ P,nsIn (KF P) Q9 "list"=some none) (hb:Rp "list"=some (.type "list")) (hx':∀ P,nsIn (KF P) Q9 "reversed"=some none) (hb':Rp "reversed"=some (.type "reversed")) (L:fL d κ σ es g)
  (hp:gy es=true:=by rfl) (hk:κ.lookup ("list":Str)=some .globalImplicit:=by kernel_rfl) (hk':κ.lookup ("reversed":Str)=some .globalImplicit:=by kernel_rfl) :
  bG d κ σ (.Call (.Name "list" p₀) [.Call (.Name "reversed" p₁) es [] p₂] [] pos) (Cy g):=fun {c A env H XJ ρ Xx s} r y p XK h=>by
 refine cz (kW (g:=fun l=>[PV.dat (.list l)]) h fun e=>aH (mO e) fun _ a b=>GM b▸qY a) fun xs XA hg h=>?_
 ·refine bA (mI h) fun hsm h=>?_
  refine bA (dg h) fun XV XW=>?_
  subst XV XW
  show QS c.M A (eval (.Name "list" p₀) env >>=fun f=>TQ pos f [] (TE pos (R8 [.Call (.Name "reversed" p₁) es [] p₂] env)) []) _ _ _
  refine Qr (br (pN hx hb (by decide) hk (by decide) r y _ _ rfl) fun v XZ z=>aH z fun XE x1 q1=>?_)
  have q1:v=.type "list":=q1
  subst q1
  refine VG rfl (jm rfl ?_)
  refine spliced_more (kB hx' hb' (eF hp) r (y.step x1) L hg (fun vs X0 XF x2 V=>?_) (by decide) hk' (by decide)) rfl
  refine V.e1 fun _ v e_=>?_
  subst e_
  refine iM (DR.list v) fun l us as e_3 L' R=>?_
  subst e_3
  have hl:=(dj R).length
  simp only[Qs] at hl
  have hsm:xs.length≤2 ^ 20:=of_decide_eq_true hsm
  refine br (xY (E:=No) (Q:=iQ c H s XJ (XA++[AO.list (xs.reverse.map PV.dat)]) (PV.ref XA.length)) r.handled L' (by rw[Ru,← hl];exact QH hsm (by decide)) fun h' tk c' D hk hD hD'=>?_) fun u X3 z=>V2 z
  have S:=x2.inv.newStp (t:=tk) (p:=(D,D)) (o':=.list (xs.reverse.map .dat)) hk hD ⟨rfl,by simpa using hsm,us.reverse,c',by simpa using hD',?_⟩
  ·exact⟨_,(x1.trans x2).trans S,(D,D),by rw[← x2.inv.rep.len,QE (QZ _)];simp,rfl⟩
  ·rw[Wu]
   exact((dj R).mono (eg.new hk hD)).rev
theorem AM (hx:∀ P,nsIn (KF P) Q9 "isinstance"=some none) (hb:Rp "isinstance"=some (.builtin "isinstance")) (hx':∀ P,nsIn (KF P) Q9 "bool"=some none) (XZ:bG d κ σ e f)
  (hp:gy [e,.Name "bool" p₁]=true:=by rfl) (hk:κ.lookup ("isinstance":Str)=some .globalImplicit:=by kernel_rfl) (hk':κ.lookup ("bool":Str)=some .globalImplicit:=by kernel_rfl) (he:(e.ctorIdx==22)=false:=by rfl) :
  gL d κ σ (.Call (.Name "isinstance" p₀) [e,.Name "bool" p₁] [] pos) (qE f):=fun {c A env H XJ ρ Xx s} r y b XK h=>by
 refine cz (mD h) fun dd XA h1 h=>?_
 refine aH (Qx.mp h) fun b' hb' e'=>?_
 cases e'
 refine isTrue_plain ?_ rfl
 have L:fL d κ σ [e,.Name "bool" p₁] (ac f (ac (B9 (.type "bool")) af)):=aQ XZ (aQ (pN hx' PyProof.Rows.boot_bool (by decide) hk' (by decide)) cV) he
 refine oI hx hb (eF hp) r y L (ps:=[.dat dd,.stat (.type "bool")]) (XA:=XK) (by unfold ac;rw[h1];rfl) (fun vs XZ XE x1 V=>?_) (by decide) hk (by decide)
 refine V.e2 fun _ _ v w e_=>?_
 subst e_
 have w:_=U7 "bool":=w
 subst w
 cases dd with
 | bool =>
  cases hb'
  have e:=DR.bool v;subst e
  exact IsiPair.bool_bool (Q3 ⟨rfl,XE,x1⟩)
 | int =>
  cases hb'
  refine bM (DR.int v) fun t XW=>?_
  subst XW
  exact IsiPair.int_bool (Q3 ⟨rfl,XE,x1.trans (ez.tok.stp x1.inv)⟩)
 | tuple =>
  cases hb'
  obtain⟨a,vs,as,rfl,⟨o,ho,hc,_⟩,_⟩:=DR.tuple v
  exact IsiPair.tuple_bool ho hc (Q3 ⟨rfl,XE,x1.trans (ez.tok.stp x1.inv)⟩)
 | _=>exact dK hb'
end
theorem bP.adopt {Xx XA:St} (i:cH c s.heap H XJ Xx) (P:ez s sD) (hD:s.heap.get? D=none) (S:bP c ([D]++H) [] sD XJ XZ XE XA)
  (k:∀ b o,b≠D→XZ.heap.get? b=some o→h'.get? b=some o) (r:OR c h' H (XE++[(D,D)]) (D,D) o'):bP c H [] s XJ { XZ with heap:=h',toks:=t } (XE++[(D,D)]) (XA++[o'])∧XE.length=XA.length:=by
 have hDH:D∉H:=fun hm=>by obtain⟨o,e⟩:=Qy.mp (i.alive D hm);rw[hD] at e;cases e
 have how:ow (XE++[(D,D)])=ow XE++[D]:=by rw[fC];rfl
 have v:=S.inv
 have hDo:D∉ow XE:=fun h=>v.rep.apart D h (Qq _ (by simp))
 have see:eg XZ.heap (([D]++H)++ow XE) h' (H++ow (XE++[(D,D)])):=fun b o e n=>by
  have nD:b≠D:=fun h=>n (Qq _ (Qq _ (by simp[h])))
  refine⟨k b o nD e,fun hm=>?_⟩
  rw[how,← QF] at hm
  rcases Qw.mp hm with h | h
  ·rcases Qw.mp h with h | h
   ·exact n (Qq _ (Qo _ h))
   ·exact n (Qo _ h)
  ·exact nD (Qu.mp h)
 refine aH (S.pre) fun n1 XW g1=>?_
 subst XW
 refine⟨⟨by simp,⟨v.ok,⟨by have:=v.rep.len;simp at this ⊢;lia,?_,?_,fun j o e=>?_⟩,fun b o e=>k b o (fun h=>?_) (v.stays b o e),fun a ha=>?_,fun a ha=>?_⟩,⟨n1++[(D,D)],by simp,fun a ha=>?_⟩,fun b o e _ na=>?_,?_⟩,v.rep.len⟩
 ·rw[how,RK]
  refine⟨v.rep.nodup,by simp,fun a ha b hb=>?_⟩
  rw[Qu] at hb;subst hb;exact fun q=>hDo (q▸ha)
 ·intro a ha hm
  rw[how] at ha
  rcases Qw.mp ha with h | h
  ·exact v.rep.apart a h (Qo _ hm)
  ·rw[Qu] at h;subst h;exact hDH hm
 ·by_cases hj:j<XA.length
  ·rw[QD hj] at e
   refine aH (v.rep.objs j o e) fun q e1 e2=>?_
   refine⟨q,by rw[QD (by rw[v.rep.len];exact hj)];exact e1,e2.mono see fun ob z=>k _ ob (fun h=>?_) z⟩
   exact v.rep.apart _ (QL.mpr ⟨q,QU e1,rfl⟩) (Qq _ (by simp[h]))
  ·have hl':=(Qt.mp e).1
   have hj':j=XA.length:=by simp at hl';lia
   subst hj'
   rw[QE (QZ _)] at e
   simp at e;subst e
   exact⟨(D,D),by rw[QE (by rw[v.rep.len];exact QZ _),v.rep.len];simp,r⟩
 ·subst h
  have:=v.fresh b (Qq _ (Qq _ (by simp)));rw[e] at this;cases this
 ·rw[how,← QF] at ha
  rcases Qw.mp ha with h | h
  ·refine v.fresh a ?_
   rcases Qw.mp h with h | h
   ·exact Qq _ (Qo _ h)
   ·exact Qo _ h
  ·rw[Qu] at h;subst h
   exact v.fresh _ (Qq _ (Qq _ (by simp)))
 ·refine bM (Qy.mp (v.alive a (Qo _ ha))) fun o e=>?_
  rw[k a o (fun h=>hDH (h▸ha)) e];rfl
 ·rw[fC] at ha
  rcases Qw.mp ha with h | h
  ·cases q:s.heap.get? a with
   | none=>rfl
   | some o=>have:=g1 a h;rw[P.keep a o q] at this;cases this
  ·have:a=D:=by simpa [ow] using h
   subst this;exact hD
 ·exact k b o (fun h=>by rw[h,hD] at e;cases e) (S.keep b o (P.keep b o e) (by simp) na)
 ·refine jW (P.same) fun h1 t1 e1=>?_
  refine jW (S.same) fun h2 t2 e2=>?_
  subst e1 e2
  exact⟨h',t,rfl⟩
theorem iy.imp'(k:∀ p v,VR h H XJ p v→VR h' H' XM p v)(r:iy h H XJ l m):iy h' H' XM l m:=by
 induction r with
 | nil=>exact .nil
 | cons a _ ih=>exact .cons (k _ _ a) ih
noncomputable abbrev DY:=Sl→St→Option (List (Int×PV)×St)
noncomputable def vy(env:Env)(pos:Pos)(kvs:List (Expr×Expr)):List (Sem QM×Sem QM):=kvs.map fun p=>(eval p.1 env,do let x ← eval p.2 env;Su pos;pure x)
noncomputable def Cz(d:Nat)(κ:Nm)(σ:List Str)(kvs:List (Expr×Expr))(f:DY):Prop :=
 ∀ ⦃c:Cf⦄ ⦃A:R7⦄ ⦃env:Env⦄ ⦃H:List Addr⦄ ⦃XJ:dF⦄ ⦃ρ:Sl⦄ ⦃Xx:St⦄ ⦃s:QR⦄,Rm A d→Ev c κ σ env H XJ ρ Xx s →
  ∀ (ps:List (Int×PV)) (XK:St),f ρ Xx=some (ps,XK)→∀ pos:Pos,QS c.M A (evalPairs (vy env pos kvs)) (fun vs s'=>∃ XM kv,bP c H [] s XJ s' XM XK∧Carries (Q5 c.prog c.w) vs kv∧iy s'.heap H XM ps kv) No s
noncomputable def sF:DY:=fun _ Xx=>some ([],Xx)
noncomputable def gU(fk fv:EF)(g:DY):DY:=fun ρ Xx=>dh mM (fk ρ Xx) fun k XA=>pP (fv ρ XA) fun p XB=>pP (g ρ XB) fun ps XC=>some ((k,p)::ps,XC)
noncomputable def mZ(g:DY):EF:=fun ρ Xx=>pP (g ρ Xx) fun ps XA=>if(ps.map (·.1)).Nodup∧ps.length≤15 then some (.ref XA.length,XA++[.idict ps]) else none
section
variable {d:Nat} {κ:Nm} {σ:List Str}
theorem yT:Cz d κ σ [] sF:=fun _ _ _ _ _ _ _ _ r y ps XK h pos=>by
 obtain⟨rfl,rfl⟩:=dg h
 exact evalPairs_nil ⟨_,[],.refl y.inv,trivial,.nil⟩
theorem pO(XZ:bG d κ σ k fk)(X0:bG d κ σ v fv)(X3:Cz d κ σ kvs g):Cz d κ σ ((k,v)::kvs) (gU fk fv g):=fun {c A env H XJ ρ Xx s} r y ps XK h pos=>by
 refine cz (mN h) fun i XA h1 h=>?_
 refine cz (mP h) fun p XB h2 h=>?_
 refine cz (mP h) fun qs XC h3 h=>?_
 refine bA (dg h) fun XV XW=>?_
 subst XV XW
 refine evalPairs_cons (br (XZ r y _ _ h1) fun kv Yb z=>aH z fun XE x1 r1=>Qr (br (X0 r (y.step x1) _ _ h2) fun vv Yc z=>aH z fun XF x2 r2=>Qr (RI (QB ?_))))
 refine br (X3 r ((y.step x1).step x2) _ _ h3 pos) fun vs t₃ z=>mH z fun XG kv' x3 c3 r3=>?_
 refine bM (DR.int r1) fun t XW=>?_
 subst XW
 exact⟨XG,(i,vv)::kv',(x1.trans x2).trans x3,⟨jB (c:=c),rfl,c3⟩,.cons (x3.vr r2) r3⟩
theorem yU(kv:List (Int×QM)):∀ (acc:List (Int×QM)),((acc++kv).map (·.1)).Nodup→merged acc kv=acc++kv:=by
 induction kv with
 | nil=>intro acc _;simp[merged]
 | cons kv r ih =>
  intro acc nd
  have nd0:=nd
  rw[RZ,RK] at nd
  have hs:WW acc kv.1 kv.2=acc++[kv]:=by
   unfold WW
   rw[if_neg]
   intro hm
   refine aH (List.any_eq_true.mp hm) fun y hy e=>?_
   exact nd.2.2 kv.1 (QL.mpr ⟨y,hy,of_decide_eq_true e⟩) kv.1 (.head _) rfl
  have:=ih (acc++[kv]) (by simpa using nd0)
  simp only[merged,List.foldl_cons] at this ⊢
  rw[hs]
  simpa using this
theorem vz (XZ:Cz d κ σ kvs g) (XU:kvs≠[]) (hl:kvs.length≤15:=by decide)
  (hshape:(fun env=>(evalEachOpt ks env).zip ((evalEach vs env).map fun v=>do let x ← v;Su pos;pure x))=fun env=>(vy env pos kvs).map fun p=>(some p.1,p.2):=by rfl):bG d κ σ (.Dict ks vs pos) (mZ g):=fun {c A env H XJ ρ Xx s} r y p XK h=>by
 refine cz (mP h) fun ps XA h1 h=>?_
 refine bA (mI h) fun Yo h=>?_
 refine bA (dg h) fun XV XW=>?_
 subst XV XW
 have hDf:s.heap.get? s.heap.objs.size=none:=dZ
 have P:ez s { s with heap:=s.heap.push { cls:=.type "dict",data:=.dict #[] } }:=ip
 have hD1:(s.heap.push { cls:=.type "dict",data:=.dict #[] }).get? s.heap.objs.size=some { cls:=.type "dict",data:=.dict #[] }:=QI _ rfl
 have i₁:cH c (s.heap.push { cls:=.type "dict",data:=.dict #[] }) ([s.heap.objs.size]++H) XJ Xx:=y.inv.enter P.keep (by simpa using hDf) (by simpa using (by rw[hD1];rfl))
 have y₁:Ev c κ σ env ([s.heap.objs.size]++H) XJ ρ Xx { s with heap:=s.heap.push { cls:=.type "dict",data:=.dict #[] } } :=
  ⟨y.env.move (Qo _ y.env.locH) (fun z hz hs=>Qo _ (y.env.cellH z hz hs).1) (fun b _ o e=>P.keep b o e) (fun p v z=>z.more P.keep (by simpa using hDf)),i₁⟩
 refine wpAny_Dict_pairs (knd:=Q5 c.prog c.w) (congrFun hshape env) (by simpa [vy] using XU) (by simpa [vy] using hl) (br (XZ r y₁ _ _ h1 pos) fun vs XZ z=>mH z fun XE kv S C R=>?_)
 have hD2:XZ.heap.get? s.heap.objs.size=some { cls:=.type "dict",data:=.dict #[] }:=S.keepH i₁ (by simp) (by simp) hD1
 have hd0:XZ.heap.DictOf (Q5 c.prog c.w) s.heap.objs.size []:=(WD (knd:=Q5 c.prog c.w) s.heap).at fun o e=>by rw[hD1] at e;cases e;exact hD2
 refine⟨kv,C,hd0,fun h' hd hs'=>?_⟩
 have hk:kv.map (·.1)=ps.map (·.1):=R.keys
 rw[yU kv [] (by simpa [hk] using Yo.1)] at hd
 have k:∀ b o,b≠s.heap.objs.size→XZ.heap.get? b=some o→h'.get? b=some o:=fun b o hb e=>hs'.extBut b o hb e
 have lo:=uv y.inv
 have hDo:s.heap.objs.size∉ow XE:=fun h=>S.inv.rep.apart _ h (Qq _ (by simp))
 have T:=bP.adopt (t:=XZ.toks+vs.length) (o':=.idict ps) y.inv P hDf S k (rd rfl (QH Yo.2 (by decide)) lo hd (R.imp' fun p v z=>?_))
 ·refine⟨_,T.1,(s.heap.objs.size,s.heap.objs.size),?_,rfl⟩
  rw[← T.2,QE (QZ _)];simp
 ·refine z.mono (new:=[(s.heap.objs.size,s.heap.objs.size)]) fun b o e n=>?_
  have nD:b≠s.heap.objs.size:=fun h=>n (Qq _ (Qq _ (by simp[h])))
  refine⟨k b o nD e,fun hm=>?_⟩
  rw[fC] at hm
  rcases Qw.mp hm with h | h
  ·exact n (Qq _ (Qo _ h))
  ·rcases Qw.mp h with h | h
   ·exact n (Qo _ h)
   ·exact nD (by simpa [ow] using h)
end
noncomputable def vA(x:Str):vk:=fun _ j=>some ((x.cps[j]?).map fun c=>.dat (.str ⟨#[c]⟩))
noncomputable def CA(x:Str):IF:=fun _ Xx=>some (vA x,x.cps.size,Xx)
theorem Fw:qb c ([I]++H) XS (vA x) (.ref I) [I] (fun j _ s=>s.heap.IsStrIter I "str_ascii_iterator" x t j) where
 next:=fun {A s XJ Xx j r} hh i hJ hc=>by
  unfold vA at hc
  cases q:x.cps[j]? with
  | none =>
   rw[q] at hc;cases hc
   exact wpAny_pyNext_ascii_end hh hJ q fun h' he=>⟨rfl,qB he⟩
  | some u =>
   rw[q] at hc;cases hc
   refine wpAny_pyNext_ascii_item hJ q fun h' hit' hs'=>⟨_,rfl,?_⟩
   have t:jc [I] s { s with heap:=h',toks:=s.toks+1 }:=⟨fun b o n e=>hs'.extBut b o (by simpa using n) e,_,_,rfl⟩
   refine d9 (id hit') fun o ho hcls hdat=>?_
   exact iC ho hcls (by decide) ⟨t,by simpa using (by rw[ho];rfl),⟨[],.str _ _⟩,hit'⟩
 move:=fun {X s s' XJ XM Xx XK j} hX i S hJ=>by
  refine aH (hJ) fun o ho q=>?_
  exact⟨o,S.keepH i (by simp) (fun hm=>hX _ hm (by simp)) ho,q⟩
 self:=fun hJ q=>wpAny_pyIter_striter_ascii hJ q
section
variable {d:Nat} {κ:Nm} {σ:List Str}
theorem Fx(ha:x.cps.all (·<128)=true:=by decide +kernel):qc d κ σ XS (.Constant (.str x) k pos) (CA x):=fun {c A env H XJ ρ Xx s} r y XR n XK h=>by
 refine iL (jp h) fun XV XW XX=>?_
 subst XV XW XX
 refine Constant_str (wpAny_pyIter_ascii ha ?_)
 generalize hs1:({ s with toks:=s.toks+1 }:QR)=XZ
 have P1:ez s XZ:=by rw[← hs1];exact .tok
 refine⟨XZ,XJ,[XZ.heap.objs.size],P1.stp y.inv,?_,fun b hb=>?_,fun Y X3 P hY=>⟨_,Fw (t:=s.toks),?_⟩⟩
 ·subst hs1;exact ip
 ·have hb:b=XZ.heap.objs.size:=by simpa using hb
  subst hb
  subst hs1
  exact⟨dZ,by rw[QI _ rfl];rfl⟩
 ·subst hs1
  exact⟨_,P.keep _ _ (QI _ rfl),rfl,rfl⟩
noncomputable def sG(g₁ g₂:QC→QC→Option QC)(f X8 X9:EF):TF:=fun ρ Xx=>dh gK (f ρ Xx) fun a XA=>dh gK (X8 ρ XA) fun b XB=>d7 yu (g₁ a b) fun q=>match q with
 | false=>some (false,XB)
 | true=>dh gK (X9 ρ XB) fun e XC=>d7 yu (g₂ b e) fun r=>some (r,XC)
theorem vB (o₁:jY (Sb op₁) g₁) (o₂:jY (Sb op₂) g₂) (X5:bG d κ σ e f) (XZ:bG d κ σ e₁ X8) (X0:bG d κ σ e₂ X9)
  (hm:Th op₂ e₂=false:=by kernel_rfl)
  (he:(fun env whole=>isTrue (.Compare e [op₁,op₂] [e₁,e₂] pos) env whole)=fun env whole=>(do testChain pos (← eval e env) [op₁,op₂] [eval e₁ env,markedBehindIn op₂ e₂ (eval e₂ env)]):=by rfl) :
  gL d κ σ (.Compare e [op₁,op₂] [e₁,e₂] pos) (sG g₁ g₂ f X8 X9):=fun {c A env H XJ ρ Xx s} r y b XK h=>by
 rw[kY he]
 refine cz (mD h) fun a XA h0 h=>?_
 refine Qr (br (X5 r y _ _ h0) fun v Yb z=>aH z fun XE x1 r1=>?_)
 rw[markedBehindIn_of_false hm]
 show QS c.M A (S5 [v] (eval e₁ env) >>=fun rv=>Su pos >>=fun _=>S5 [v,rv] (Sb op₁ v rv) >>=fun cv=>release [v,rv] [cv] >>=fun _=>S5 [cv,rv] (truthy cv) >>=fun ok =>
  if ok=true then testChain pos rv [op₂] [eval e₂ env] else pure false) _ _ Yb
 refine cz (mD h) fun bb XB h1 h=>?_
 refine Qr (Rd (br (XZ r (y.step x1) _ _ h1) fun w Yc z=>aH z fun XF x2 r2=>Qr (RI (Qr (Rd ?_)))))
 refine aH (qZ h vc) fun q hg h=>?_
 cases q with
 | false =>
  refine bA (dg h) fun XV XW=>?_
  subst XV XW
  refine br (o₁ (r.le (Ry _)) (x2.vr r1) r2 hg) fun u t₃ z=>bA z fun z1 z2=>Qr (wpAny_release (Qr (Rd ?_)))
  have e:=DR.bool z2;subst e
  refine Q3 ?_
  rw[if_neg (by decide)]
  exact QB ⟨rfl,XF,(x1.trans x2).trans (z1.stp x2.inv)⟩
 | true =>
  refine br (o₁ (r.le (Ry _)) (x2.vr r1) r2 hg) fun u t₃ z=>bA z fun z1 z2=>Qr (wpAny_release (Qr (Rd ?_)))
  have e:=DR.bool z2;subst e
  refine Q3 ?_
  rw[if_pos rfl]
  have S₃:=z1.stp x2.inv
  have x3:=(x1.trans x2).trans S₃
  show QS c.M A (S5 [w] (eval e₂ env) >>=fun rv=>Su pos >>=fun _=>operate [w,rv] (Sb op₂ w rv) >>=fun cv=>S5 [cv] (truthy cv)) _ _ t₃
  refine cz (mD h) fun ee XC h2 h=>?_
  refine Qr (Rd (br (X0 r (y.step x3) _ _ h2) fun w' t₄ z=>aH z fun ads₄ x4 r4=>Qr (RI (Qr (wpAny_operating ?_)))))
  refine aH (qZ h vc) fun rr hg2 h=>?_
  ·refine bA (dg h) fun XV XW=>?_
   subst XV XW
   refine br (o₂ (r.le (Ry _)) (x4.vr (S₃.vr r2)) r4 hg2) fun u t₅ z=>bA z fun z3 z4=>Rd ?_
   have e:=DR.bool z4;subst e
   exact Q3 ⟨rfl,ads₄,(x3.trans x4).trans (z3.stp x4.inv)⟩
end
noncomputable def m4(C:Addr):List (Option PV):=RA (gh C).length none
noncomputable def iZ(C:Addr)(F:PF)(g:LF):EF:=fun ρ Xx=>pP (g ρ Xx) fun ps XA=>dh GI (F (.ref XA.length::ps) (XA++[.inst C (m4 C)])) fun _ XB=>some (.ref XA.length,XB)
theorem Rm.make(r:Rm A (d+1)):Rm (A.under (.builtin "type.__call__" ⟨.ref C::Xz,[]⟩)) d:=by
 refine bM (r.frames) fun l hl=>?_
 refine⟨r.handled,?_,?_,l,?_⟩
 ·have:(A.under (.builtin "type.__call__" ⟨.ref C::Xz,[]⟩)).depth=A.depth+1:=rfl
  have:=r.depth;lia
 ·have:(A.under (.builtin "type.__call__" ⟨.ref C::Xz,[]⟩)).units=A.units+1:=rfl
  have:=r.units;lia
 ·have:(A.under (.builtin "type.__call__" ⟨.ref C::Xz,[]⟩)).frames=pushEnvs [] A.frames:=rfl
  rw[this,hl];rfl
section
variable {d:Nat} {κ:Nm} {σ:List Str}
theorem Fy (hm:∀ P,makesIn (KF P) C=true) (hi:∀ P,WV (KF P) (.ref C) "__init__"=some (some (.ref fI))) (hf:∀ P,typeIn (KF P) (.ref fI)=some (.type "function")) (Fn:bt d fI F)
 {Xx XB:St} (r:Rm A (d+1)) (i:cH c s.heap H XJ Xx) (V:cG s.heap H XJ ps vs) (h:F (.ref Xx.length::ps) (Xx++[.inst C (m4 C)])=some (.dat .none,XB)) :
   QS c.M A (call (.ref C) vs []) (iQ c H s XJ XB (.ref Xx.length)) No s:=by
  obtain⟨hh,g,dd,t,os⟩:=s
  have X:c.K.In hh:=i.KIn
  have hK:=i.ok.hK
  refine WQ (make_core (makes_of X (hK▸hm c.P)) (looks_findIn X (hK▸hi c.P)) (fun self=>bind_fn X self (hK▸hf c.P)) (.inl rfl) ?_)
  have k:∀ b o,hh.get? b=some o→((hh.push Ub).push (Uy C hh.objs.size)).get? b=some o:=fun b o e=>Qz _ (Qz _ e)
  have hD:((hh.push Ub).push (Uy C hh.objs.size)).get? hh.objs.size=some Ub:=Qz _ (QI _ rfl)
  have hx:((hh.push Ub).push (Uy C hh.objs.size)).get? (hh.objs.size+1)=some (Uy C hh.objs.size):=by
   have e:=QI (h:=hh.push Ub) (o:=Uy C hh.objs.size) rfl
   rwa [Ul] at e
  have fx:hh.get? (hh.objs.size+1)=none:=by
   cases q:hh.get? (hh.objs.size+1) with
   | none=>rfl
   | some o=>exact absurd (Q1 q) (TG.mpr (TR _))
  have hns:((hh.push Ub).push (Uy C hh.objs.size)).Ns hh.objs.size (fun _=>none):=⟨_,_,_,hD,rfl,by intro e he;simp at he,fun x=>rfl⟩
  have hxH:hh.objs.size+1∉H++ow (XJ++[(hh.objs.size+1,hh.objs.size)]):=fun hm=>by
   rw[fC] at hm
   have live:∀ a∈H++ow XJ,a≠hh.objs.size+1:=fun a ha q=>by
    refine bM (Qy.mp (i.live a ha)) fun o e=>?_
    rw[q] at e
    exact absurd (Q1 e) (TG.mpr (TR _))
   rw[← QF] at hm
   rcases Qw.mp hm with h | h
   ·exact live _ h rfl
   ·have:hh.objs.size+1=hh.objs.size:=by simpa [ow] using h
    exact absurd this (Wq _)
  have S:=i.newStp (s:=⟨hh,g,dd,t,os⟩) (t:=t) (p:=(hh.objs.size+1,hh.objs.size)) (o':=.inst C (m4 C)) k dZ
   ⟨hx,hxH,_,hns,⟨by simp[m4],fun _ _=>rfl,fun j x hj=>by
    have:(m4 C)[j]?=some none∨(m4 C)[j]?=none:=by
     unfold m4
     rw[SO]
     split<;>simp
    rcases this with e | e<;>rw[e]⟩,_,_,_,hD,rfl,by simp⟩
  have V₁:cG ((hh.push Ub).push (Uy C hh.objs.size)) H (XJ++[(hh.objs.size+1,hh.objs.size)]) (.ref Xx.length::ps) (.ref (hh.objs.size+1)::vs) :=
   .cons ⟨(hh.objs.size+1,hh.objs.size),by rw[← i.rep.len,QE (QZ _)];simp,rfl⟩ (S.vrs V)
  refine codeAny_mono (Fn.code r.make S.inv _ _ V₁ _ _ h) fun q s' z=>?_
  cases q with
  | error e=>exact z
  | ok fl =>
   cases fl with
   | ret v =>
    refine aH (z) fun XF S₂ q=>?_
    refine⟨DR.none q,XF,S.trans S₂,(hh.objs.size+1,hh.objs.size),?_,rfl⟩
    refine aH (S₂.pre) fun n2 e _=>?_
    rw[e,QD (by simp[i.rep.len]),← i.rep.len,QE (QZ _)];simp
   | _=>exact z
theorem pR {d₀:Nat} (Fn:bt d₀ fI F) (L:fL (d+1) κ σ es g) (h₀:d₀≤d:=by decide +kernel) (hm:(fun P=>(makesIn (KF P) C,WV (KF P) (.ref C) "__init__",typeIn (KF P) (.ref fI),Wh (KF P) (.ref C)))=fun _=>(true,some (some (.ref fI)),some (.type "function"),true):=by kernel_rfl)
  (hx:kw.lookup x=some (some (.ref C)):=by kernel_rfl) (hp:gy es=true:=by rfl) (hk:κ.lookup x=some .globalImplicit:=by kernel_rfl) (hd:(x==("__debug__":Str))=false:=by kernel_rfl) :
  bG (d+1) κ σ (.Call (.Name x p₀) es [] pos) (iZ C F g):=fun {c A env H XJ ρ Xx s} r y p XK h=>by
 have hm:∀ P,_∧_∧_∧_:=fun P=>by simpa only[VN] using congrFun hm P
 refine cz (mP h) fun ps XA hg h=>?_
 refine cz (kW (g:=fun _=>PV.dat .none) h GO) fun _ XB hF h=>?_
 ·obtain⟨rfl,rfl⟩:=dg h
  show QS c.M A (eval (.Name x p₀) env >>=fun f=>TQ pos f [] (TE pos (R8 es env)) []) _ _ _
  refine Qr (br (xh (gT hx) hk hd r y _ _ rfl) fun v XZ z=>aH z fun XE x1 q1=>?_)
  have q1:v=.ref C:=q1
  subst q1
  refine oA (eF hp) r (y.step x1) L hg (fun P=>(hm P).2.2.2) fun vs X0 XF x2 q2=>?_
  exact br (Fy (fun P=>(hm P).1) (fun P=>(hm P).2.1) (fun P=>(hm P).2.2.1) (Fn.le h₀) r x2.inv q2 hF) fun v X3 z=>.next (x1.trans x2) z
end
noncomputable def jf(Xx:Stmt):List Stmt:=by
 cases Xx with
 | FunctionDef _ _ b _ _ _ _ _ _ _=>exact b
 | _=>exact[]
noncomputable abbrev oL:Vp:=nO (j8 28 0) "TermBank.__init__" 3 [("__class__",575)] .none (.str "minismt.terms" 365) (.ref 586) (.ref 580) 0
noncomputable abbrev κT:Nm:=[("self",.local),("__class__",.free),("super",.globalImplicit)]
noncomputable def GX(F₂:PF)(f:SF):PF:=fun ps Xx=>(ot ps).bind fun p=>(jX p).bind fun i=>if mS 688 Xx[i]? then pP (F₂ [.ref i] Xx) fun _ XA=>aY (f [some (.ref i)] XA) else none
theorem Bl:∀ P,(KF P).lookup 587=some ⟨.type "function",none,.func oL,#[]⟩:=fun P=>by kernel_rfl
theorem Fz:∀ P,(KF P).lookup 586=some (JI P):=fun P=>by kernel_rfl
theorem H4:∀ P,∃ vs,(KF P).lookup 586=some ⟨.type "code",none,.fields vs,#[]⟩∧vs[2]?=some (.str "/claim/cut.py" 935):=fun P=>⟨_,Fz P,rfl⟩
theorem H5:∀ P,(KF P).lookup 575=some ⟨.type "cell",none,.cell (some (.ref 688)),#[]⟩:=fun P=>by kernel_rfl
theorem KE:∀ P,mroIn (KF P) 688 (.ref 688)=some true:=fun P=>by kernel_rfl
theorem KG:∀ P,∃ cd,(∃ o,(KF P).lookup 688=some o∧o.data=.cls cd)∧clsIn (KF P) 688=some cd∧(cd.mro.dropWhile (· !=.ref 688)).drop 1=[.ref 569,.ref 473,.ref 368,.type "object"] :=
 fun P=>⟨⟨"TermBank",[.ref 569],[.ref 688,.ref 569,.ref 473,.ref 368,.type "object"],687,"TermBank",true,[],[],false,none,false⟩,⟨oo.getD 688 bw P,by kernel_rfl,by kernel_rfl⟩,by kernel_rfl,by kernel_rfl⟩
theorem FB:∀ P,alongIn (KF P) "__init__" [.ref 569,.ref 473,.ref 368,.type "object"]=some (some (.ref 169)):=fun P=>by kernel_rfl
theorem MK:∀ P,fnIn (KF P) 169=true:=fun P=>by kernel_rfl
theorem FC:∀ P,(KF P).lookup 169=some (EW P):=fun P=>by kernel_rfl
theorem H6:∀ P,∃ o,(KF P).lookup 169=some o∧o.cls=.type "function":=fun P=>⟨_,FC P,rfl⟩
theorem ML:∀ P,nsIn (KF P) cStatics "thirdparty.any"=some none:=fun P=>by kernel_rfl
theorem KH:∀ P,nsIn (KF P) Q9 "super"=some none:=fun P=>by kernel_rfl
theorem KI:Rp "super"=some (.type "super"):=by decide +kernel
theorem H7:∀ P,WR (KF P) (.ref 586) "TermBank.__init__"=true:=fun P=>by kernel_rfl
theorem MM(v:QM):SH oL ⟨[v],[]⟩=pure [(("self":Str),v)]:=by kernel_rfl
theorem H8:∀ P,Wh (KF P) (.ref 587)=true:=fun P=>by kernel_rfl
theorem FD (hbody:oL.body=.stmts (.Expr (.Call (.Attribute (.Call (.Name "super" p₀) [] [] p₁) "__init__" p₂) [] [] pe) pe::Xz)) (Fn:bt d 169 F₂) (B:fm d κT ["self"] Xz f)
  (he:(fun env=>eval (.Call (.Attribute (.Call (.Name "super" p₀) [] [] p₁) "__init__" p₂) [] [] pe) env)=fun env=>(do
   let ov ← attributeBase (.Call (.Name "super" p₀) [] [] p₁) "__init__" env (eval (.Call (.Name "super" p₀) [] [] p₁) env)
   Su p₂.atName
   let(f,first) ← S5 [ov] (Wk ov "__init__" (tB (.Call (.Name "super" p₀) [] [] p₁) env))
   TQ pe f first (TE pe (R8 [] env)) []):=by rfl):bt (d+1) 587 (GX F₂ f):=by
 revert p₀ p₁ p₂ pe Xz d F₂ f
 refine @mG _ _ _ _ _ _ _ _ _ nI ?_
 generalize q1 _=p₀,q2 _=p₁,q3 _=p₂,q4 _=pe,q5 _=Xz,q6 _=d,q7 _=F₂,qe _=f
 intro hbody Fn B he
 exact⟨H8,fun {c A H XJ Xx s} r i ps vs V p XK h=>by
   refine aH (mO h) fun p0 hp0 h1=>?_
   refine aH (mO h1) fun n hn h2=>?_
   cases qY hp0
   cases tw hn
   ·refine bA (mI h2) fun hi h3=>?_
    refine cz (mP h3) fun q XA hF h=>?_
    ·have hK:=i.ok.hK
     refine bM (xj hi) fun fs hst=>?_
     refine V.e1 fun _ v e_=>?_
     subst e_
     refine aH (v.ref) fun x hx XX=>?_
     subst XX
     obtain⟨hh,g,dd,tk,os⟩:=s
     refine Vm (fd:=oL) (binds:=[(("self":Str),.ref x.1)]) r.room (i.KIn _ _ (hK▸Bl c.P)) rfl i.lim (WS i.KIn (hK▸H7 c.P)) hbody (.of_eq (MM _)) (by decide +kernel) (fun y hy=>by rw[Qu] at hy;subst hy;show oL.scope.names.lookup ("self":Str)=some .local;decide +kernel) fun h₁ hns hk₁=>?_
     have hL:hh.get? hh.objs.size=none:=dZ
     generalize hLe:(Shared.heap ⟨hh,g,dd,tk,os⟩).objs.size=L at hns ⊢
     have hLe:hh.objs.size=L:=hLe
     rw[hLe] at hL
     generalize hte:(Shared.toks ⟨hh,g,dd,tk,os⟩)+[(("self":Str),QV x.1)].length=Yb
     have P₁:ez ⟨hh,g,dd,tk,os⟩ ⟨h₁,g,dd,Yb,os⟩:=⟨hk₁,_,_,rfl⟩
     have hlive:∀ b∈[L],(h₁.get? b).isSome=true:=fun b hb=>by rw[Qu] at hb;subst hb;exact Ns.live hns
     have hX:∀ b∈[L],hh.get? b=none:=fun b hb=>by rw[Qu] at hb;subst hb;exact hL
     have i₁:cH c h₁ ([L]++H) XJ Xx:=i.enter hk₁ hX hlive
     have vr₁:VR h₁ ([L]++H) XJ (.ref n) (.ref x.1):=⟨x,hx,rfl⟩
     have hm0:(fun y:Str=>([(("self":Str),QV x.1)].reverse).lookup y) "self"=some (.ref x.1):=rfl
     have E₁:er κT ["self"] (SW oL L 587) h₁ ([L]++H) XJ [some (.ref n)]:=by
      refine⟨by kernel_rfl,by kernel_rfl,rfl,rfl,by show L∈[L]++H;simp,fun z hz hs=>?_,fun z hz hk=>?_,fun z hz w hw e=>?_,rfl,_,fun _=>none,hns,fun z b hz e=>?_,fun j z q ej eq=>?_⟩
      ·have hz:z=(("__class__":Str),(575:Addr)):=Qu.mp hz
       subst hz
       exact absurd (Qu.mp hs) (by decide)
      ·rw[Qu.mp hz] at hk
       exact absurd hk (by decide)
      ·rw[Qu.mp hz,Qu.mp hw]
      ·rw[Qu.mp hz] at e
       have e:([(("__class__":Str),(575:Addr))]:List (Str×Addr)).lookup ("self":Str)=some b:=e
       rw[show([(("__class__":Str),(575:Addr))]:List (Str×Addr)).lookup ("self":Str)=none from by decide] at e
       exact dK e
      ·cases j with
       | zero =>
        obtain rfl:=cE ej
        cases eq
        exact⟨_,vr₁,.inl ⟨by decide,hm0⟩⟩
       | succ j=>cases ej
     refine aH (H4 c.P) fun vs6 l586 hvs6=>?_
     refine d9 (KG c.P) fun cd hD hcd hdrop=>?_
     refine aH hD fun oD hD1 hD2=>?_
     refine aH (H6 c.P) fun o9 l169 c169=>?_
     have X1:c.K.In h₁:=i₁.KIn
     rw[hK] at X1
     refine iM (tA i₁ hst) fun p' m' od' e1 I' _=>?_
     rw[hx] at e1;cases e1
     have hD1:=X1 _ _ hD1
     refine ks_wpAt_execs_cons (ks_wpAt_Expr_any (ks_wpAt_MethodCall (pl:=tB (.Call (.Name "super" p₀) [] [] p₁) (SW oL L 587)) ?_ (congrFun he _)) (by kernel_rfl) (by kernel_rfl))
     refine ks_wpAt_super_base (env:=SW oL L 587) (f:=587) (cc:=586) (ar:={ arg:="self",annotation:=none,pos:=⟨320,17,320,21⟩ }) (by kernel_rfl) (by kernel_rfl) (by decide) rfl (X1 _ _ (Bl c.P)) rfl (by kernel_rfl) rfl (X1 _ _ l586) rfl hvs6 i.ok.file i.ok.top ?_
     refine ks_loadName_global (by kernel_rfl) (by kernel_rfl) ?_
     refine aH (i₁.ok.blt) fun mb nb eb=>?_
     refine Qr ((VT X1 (KH c.P)).here (Qr (wpAny_nsGet (nb.keeps i₁.stays) ?_)))
     rw[eb _ (by decide),KI]
     refine QB ⟨rfl,?_⟩
     refine VF (by kernel_rfl) (by kernel_rfl) rfl ⟨_,X1 _ _ (H5 c.P),rfl⟩ ?_
     refine Vr (by kernel_rfl) (by kernel_rfl) hns rfl ?_
     refine ks_wpAny_isType_cls hD1 hD2 ⟨rfl,?_⟩
     refine ks_wpAny_call_super hD1 hD2 I'.at_ I'.cls (fun cc e=>by cases e) (looks_mroIn X1 (KE c.P)) fun h₂ hso hk₂=>?_
     have P₂:ez ⟨h₁,g,dd,Yb,os⟩ ⟨h₂,g,dd,Yb,os⟩:=⟨hk₂,_,_,rfl⟩
     have X2:(KF c.P).In h₂:=fun a o e=>hk₂ _ _ (X1 a o e)
     refine ks_wpAny_getMethod_super hso (looks_opaque X2 (ML c.P)) (l₀:=cd.mro) ?_ hdrop X2 (FB c.P) (X2 _ _ l169) c169 (fun e=>?_) (by decide) ?_
     ·exact(looks_clsIn X2 hcd).andThen .now
     ·have a1:=I'.at_
      rw[e,hD1] at a1
      obtain rfl:=cE a1
      cases hD2
     have P₃:ez ⟨h₂,g,dd,Yb,os⟩ ⟨h₂.push { cls:=.type "method",data:=.fields #[.ref 169,.ref x.1] },g,dd,Yb+1,os⟩:=⟨fun b o e=>Qz _ e,_,_,rfl⟩
     have hq0:(h₂.push { cls:=.type "method",data:=.fields #[.ref 169,.ref x.1] }).get? h₂.objs.size=some { cls:=.type "method",dict:=none,data:=.fields #[.ref 169,.ref x.1],slots:=#[] }:=QI _ rfl
     refine callWith_of (P:=MethP (KF c.P) h₂.objs.size 169 (.ref x.1)) rfl (keeps_M (MK c.P)) (jm rfl (V2 ⟨⟨hq0,fun a o e=>Qz _ (X2 a o e)⟩,?_⟩))
     have P₂₃:=P₂.trans P₃
     have i₃:=(P₂₃.stp (s:=⟨h₁,g,dd,Yb,os⟩) i₁)
     refine WQ (ks_codeAny_call_bound hq0 (codeAny_mono (Fn.code (r.deeper (env:=SW oL L 587)) i₃.inv [.ref n] [.ref x.1] (.cons (i₃.vr vr₁) .nil) _ _ hF) fun q s' z=>?_))
     cases q with
     | error e=>exact z.elim
     | ok fl =>
      cases fl<;>first | exact z.elim | skip
      refine aH (z) fun XG S₃ q=>?_
      have y₃:Ev c κT ["self"] (SW oL L 587) ([L]++H) XG [some (.ref n)] XA s':=(Ev.step (s:=⟨h₁,g,dd,Yb,os⟩) ⟨E₁,i₁⟩ i₃).step S₃
      have S₀:=i₃.trans S₃
      have hown:∀ b∈own ["self"] (SW oL L 587),b∈[L]:=fun b hb=>by
       rcases gi.mp hb with rfl | ⟨z,hz,hs,rfl⟩
       ·exact .head _
       ·have hz:z=(("__class__":Str),(575:Addr)):=Qu.mp hz
        subst hz
        exact absurd (Qu.mp hs) (by decide)
      have big:∀ {s' XM XK},bP c ([L]++H) [] ⟨h₁,g,dd,Yb,os⟩ XJ s' XM XK→bP c ([L]++H) (own ["self"] (SW oL L 587)) ⟨h₁,g,dd,Yb,os⟩ XJ s' XM XK:=fun x=>x.weaken (by simp) fun a ha=>Qq _ (hown a ha)
      have body:∀ fl Yg XB,f [some (.ref n)] XA=some (fl,Yg,XB)→QS c.M (A.deeper (SW oL L 587)) (execs Xz (SW oL L 587)) (ur c κT ["self"] (SW oL L 587) ([L]++H) s' XG fl Yg XB) No s':=fun fl Yg XB h=>B r.deeper y₃ _ _ _ h
      refine Kw h (fun Yg e=>?_) fun Yg e e2=>?_
      ·refine UJ (S8 (body _ _ _ e) (fun fl X0 z=>?_) fun _ _ z=>z.elim)
       refine d9 (z) fun XF S _ q=>?_
       cases fl<;>first | exact q.elim | skip
       exact⟨XF,((big S₀).trans S).leave hk₁ P₁.same hX hown,q.less⟩
      ·subst e2
       refine UJ (S8 (body _ _ _ e) (fun fl X0 z=>?_) fun _ _ z=>z.elim)
       refine d9 (z) fun XF S _ q=>?_
       cases fl<;>first | exact q.elim | skip
       exact⟨XF,((big S₀).trans S).leave hk₁ P₁.same hX hown,[],.none⟩⟩
theorem KJ (hlook:∀ P,∃ oc od sl,(KF P).lookup a=some ⟨oc,od,.func fd,sl⟩) (hkeep:∀ P,Wh (KF P) (.ref a)=true) (hcode:∀ P,WR (KF P) fd.code fd.qualname=true)
  (hbody:fd.body=.stmts body) (hg:fd.globals=Q9) (hbl:fd.builtins=Ug) (hco:fd.scope.isCoroutine=false) (hgen:fd.scope.isGenerator=false) (hkind:fd.scope.kind=.function) (hκ:fd.scope.names=κ) (nd:(ns++more).Nodup)
  (hcell:∀ x∈κ,x.2≠.cell) (hloc:∀ x∈ns,κ.lookup x=some .local) (hclo:∀ x∈fd.closure,x.1∉ns++more) (hap:∀ x∈fd.closure,∀ y∈fd.closure,x.2=y.2→x.1=y.1) (hnc:∀ x∈ns++more,κ.lookup x≠some .cell)
  (hb:∀ (P:Sp) (s:QR),(KF P).In s.heap→∀ us:List QM,us.length=ns.length→W9 s fd ⟨us,[]⟩ (ns.zip us)) (B:fm d κ (ns++more) body f):bt (d+1) a (bY ns.length more.length f) :=
 ⟨hkeep,fun {c A H XJ Xx s} r i ps vs V p XK h=>by
  refine bA (mI h) fun hl h=>?_
  ·have hK:=i.ok.hK
   refine GD (hlook c.P) fun oc od sl hlk=>?_
   have hul:vs.length=ns.length:=V.length.symm.trans hl
   have hmap:(ns.zip vs).map (·.1)=ns:=by rw[Wi];lia
   refine Vm (fd:=fd) (binds:=ns.zip vs) r.room (i.KIn _ _ (hK▸hlk)) rfl i.lim (WS i.KIn (hK▸hcode c.P)) hbody (hb c.P s (hK▸i.KIn) vs hul) (by rw[hκ];exact hcell) (fun y hy=>?_) (fun h₁ hns hk₁=>?_) hco hgen hkind
   ·rw[hκ];exact hloc _ (hmap▸QL.mpr ⟨y,hy,rfl⟩)
   ·have hX:∀ b∈[s.heap.objs.size],s.heap.get? b=none:=fun b hb=>by rw[Qu] at hb;subst hb;exact dZ
    have hlive:∀ b∈[s.heap.objs.size],(h₁.get? b).isSome=true:=fun b hb=>by rw[Qu] at hb;subst hb;exact Ns.live hns
    have i₁:cH c h₁ ([s.heap.objs.size]++H) XJ Xx:=i.enter hk₁ hX hlive
    have V₁:cG h₁ ([s.heap.objs.size]++H) XJ ps vs:=V.more hk₁ hX
    have hnames:(SW fd s.heap.objs.size a).scope.names=κ:=hκ
    have E₁:er κ (ns++more) (SW fd s.heap.objs.size a) h₁ ([s.heap.objs.size]++H) XJ (ps.map some++RA more.length none):=by
     refine⟨hnames,hkind,hg,hbl,by show s.heap.objs.size∈[s.heap.objs.size]++H;simp,fun z hz hs=>absurd hs (hclo z hz),fun z hz hk=>absurd hk (hnc z hz),hap,by simp[hl],_,fun _=>none,hns,fun z b hz e=>absurd hz (hclo _ (mem_of_lookup e)),fun j x q ej eq=>?_⟩
     have hj:j<ps.length:=by
      cases Xb j ps.length with
      | inl h=>exact h
      | inr h =>
       rw[QE (by simpa using h)] at eq
       rw[SO] at eq
       split at eq<;>cases eq
     rw[QD (by simpa using hj)] at eq
     rw[QD (by lia)] at ej
     have eq':ps[j]?=some q:=by
      rw[Q7] at eq
      refine aH (Qx.mp eq) fun z h1 h2=>?_
      cases h2;exact h1
     refine aH (V₁.get eq') fun v hv hr=>?_
     refine⟨v,hr,.inl ⟨hloc x (QU ej),?_⟩⟩
     have hm:(ns.zip vs)[j]?=some (x,v):=by rw[Up];exact⟨ej,hv⟩
     have ndn:((ns.zip vs).reverse.map (·.1)).Nodup:=by rw[Wu,hmap];exact List.pairwise_reverse.mpr ((RK.mp nd).1.imp fun h=>Tc h)
     have gen:∀ {l:List (Str×QM)} {y:Str×QM},(l.map (·.1)).Nodup→y∈l→l.lookup y.1=some y.2:=by
      intro l
      induction l with
      | nil=>intro y _ h;cases h
      | cons z t ih =>
       intro y nd h
       simp only[QX,RP] at nd
       rcases QJ.mp h with e | h
       ·subst e;rw[RU];simp
       ·have XU:(y.1==z.1)=false:=by
         cases q:y.1==z.1 with
         | false=>rfl
         | true=>exact absurd (QL.mpr ⟨y,h,beq_iff_eq.mp q⟩) nd.1
        rw[RU,XU];exact ih nd.2 h
     exact gen (y:=(x,v)) ndn (List.mem_reverse.mpr (QU hm))
    have P₁:ez s { s with heap:=h₁,toks:=s.toks+(ns.zip vs).length }:=⟨hk₁,_,_,rfl⟩
    have hown:∀ b∈own (ns++more) (SW fd s.heap.objs.size a),b∈[s.heap.objs.size]:=fun b hb=>by
     rcases gi.mp hb with rfl | ⟨z,hz,hs,rfl⟩
     ·exact .head _
     ·exact absurd hs (hclo z hz)
    have body:∀ fl Yg XB,f (ps.map some++RA more.length none) Xx=some (fl,Yg,XB)→QS c.M (A.deeper (SW fd s.heap.objs.size a)) (execs body (SW fd s.heap.objs.size a)) (ur c κ (ns++more) (SW fd s.heap.objs.size a) ([s.heap.objs.size]++H) { s with heap:=h₁,toks:=s.toks+(ns.zip vs).length } XJ fl Yg XB) No { s with heap:=h₁,toks:=s.toks+(ns.zip vs).length } :=
     fun fl Yg XB h=>B r.deeper ⟨E₁,i₁⟩ _ _ _ h
    refine Kw h (fun Yg e=>?_) fun Yg e e2=>?_
    ·refine UJ (S8 (body _ _ _ e) (fun fl X0 z=>?_) fun _ _ z=>z.elim)
     refine d9 (z) fun XF S _ q=>?_
     cases fl<;>first | exact q.elim | skip
     exact⟨XF,S.leave hk₁ P₁.same hX hown,q.less⟩
    ·subst e2
     refine UJ (S8 (body _ _ _ e) (fun fl X0 z=>?_) fun _ _ z=>z.elim)
     refine d9 (z) fun XF S _ q=>?_
     cases fl<;>first | exact q.elim | skip
     exact⟨XF,S.leave hk₁ P₁.same hX hown,[],.none⟩⟩
noncomputable def FE(κ:Nm):Env:={ (Ts:Env) with scope:={ kind:=.function,names:=κ,isGenerator:=false,isCoroutine:=false,more:=[] } }
theorem gI(h:S0 T V (FE κ)=pure r):∀ env:Env,env.scope.names=κ→env.scope.kind=.function→S0 T V env=pure r:=fun env h1 h2=>by
 rw[← h]
 have hk:env.kindOf=(FE κ).kindOf:=funext fun x=>by unfold Sf;rw[h1];rfl
 have hb:env.blockKind=(FE κ).blockKind:=by unfold W2;rw[h2];rfl
 delta S0
 rw[hk,hb]
theorem tH(i:Nat)(h:kw[i]?=some (x,v))(P:Sp):nsIn (KF P) Q9 x=some v:=SD.mp (Bc P) (x,v) (QU h)
theorem KL:∀ P,nsIn (KF P) Q9 "bool"=some (none):=tH 30 rfl
theorem yV:∀ P,nsIn (KF P) Q9 "isinstance"=some (none):=tH 40 rfl
theorem KM:∀ P,nsIn (KF P) Q9 "list"=some (none):=tH 43 rfl
theorem CB:∀ P,nsIn (KF P) Q9 "reversed"=some (none):=tH 50 rfl
theorem xZ:Rp "isinstance"=some (.builtin "isinstance"):=by decide +kernel
theorem AN:Rp "reversed"=some (.type "reversed"):=by decide +kernel
theorem gP:∀ P h,(KF P).In h→∃ as,Reads h (.int 0 367) (.int 0) as:=fun _ _ _=>⟨[],.int _ _⟩
theorem DZ:∀ P h,(KF P).In h→∃ as,Reads h (.int 50 1274) (.int 50) as:=fun _ _ _=>⟨[],.int _ _⟩
theorem tJ:∀ P h,(KF P).In h→∃ as,Reads h (.int 1 369) (.int 1) as:=fun _ _ _=>⟨[],.int _ _⟩
theorem MN:∀ P,(KF P).lookup 91=some (Nw P):=fun P=>by kernel_rfl
theorem m6:∀ P h,(KF P).In h→∃ as,Reads h (.ref 91) (.tuple [.int (-1),.int 1]) as:=fun P _ X=>⟨_,.tuple (X _ _ (MN P)) rfl rfl (.cons (as:=[]) (.int _ _) (.cons (as:=[]) (.int _ _) .nil))⟩
theorem KN:∀ P,(KF P).lookup 821=some (J0 P):=fun P=>by kernel_rfl
theorem gV:∀ P h,(KF P).In h→∃ as,Reads h (.ref 821) (.tuple [.int (-1),.int 1]) as:=fun P _ X=>⟨_,.tuple (X _ _ (KN P)) rfl rfl (.cons (as:=[]) (.int _ _) (.cons (as:=[]) (.int _ _) .nil))⟩
theorem t6:∀ P h,(KF P).In h→∃ as,Reads h (.int 65536 375) (.int 65536) as:=fun _ _ _=>⟨[],.int _ _⟩
theorem MO:∀ P,(KF P).lookup 90=some (Nv P):=fun P=>by kernel_rfl
theorem oN:∀ P h,(KF P).In h→∃ as,Reads h (.ref 90) (.tuple [.int 1,.int 1]) as:=fun P _ X=>⟨_,.tuple (X _ _ (MO P)) rfl rfl (.cons (as:=[]) (.int _ _) (.cons (as:=[]) (.int _ _) .nil))⟩
theorem KO:∀ P,(KF P).lookup 820=some (JZ P):=fun P=>by kernel_rfl
theorem hU:∀ P h,(KF P).In h→∃ as,Reads h (.ref 820) (.tuple [.int 1,.int 1]) as:=fun P _ X=>⟨_,.tuple (X _ _ (KO P)) rfl rfl (.cons (as:=[]) (.int _ _) (.cons (as:=[]) (.int _ _) .nil))⟩
theorem D0:∀ P h,(KF P).In h→∃ as,Reads h (.int 2 371) (.int 2) as:=fun _ _ _=>⟨[],.int _ _⟩
theorem KP:∀ P,(KF P).lookup 155=some (Jj P):=fun P=>by kernel_rfl
theorem AP:∀ P h,(KF P).In h→∃ as,Reads h (.ref 155) (.tuple [.str "true",.str "false",.str "num",.str "bvnum"]) as:=fun P _ X=>⟨_,.tuple (X _ _ (KP P)) rfl rfl (.cons (as:=[]) (.str _ _) (.cons (as:=[]) (.str _ _) (.cons (as:=[]) (.str _ _) (.cons (as:=[]) (.str _ _) .nil))))⟩
theorem MP:∀ P,(KF P).lookup 89=some (Nu P):=fun P=>by kernel_rfl
theorem sH:∀ P h,(KF P).In h→∃ as,Reads h (.ref 89) (.tuple [.int 0,.int 1]) as:=fun P _ X=>⟨_,.tuple (X _ _ (MP P)) rfl rfl (.cons (as:=[]) (.int _ _) (.cons (as:=[]) (.int _ _) .nil))⟩
theorem uz:∀ {l:List α},l.length=n+1→∃ a r,l=a::r∧r.length=n
 | a::r,h=>⟨a,r,rfl,Td h⟩
theorem yW(h:us.length=1):∃ a,us=[a]:=by
 obtain⟨a,r,rfl,q⟩:=uz h
 exact⟨a,by rw[TU q]⟩
theorem CC(h:us.length=2):∃ a b,us=[a,b]:=by
 obtain⟨a,r,rfl,q⟩:=uz h
 obtain⟨b,rfl⟩:=yW q
 exact⟨a,b,rfl⟩
theorem ww(h:us.length=3):∃ a b c,us=[a,b,c]:=by
 obtain⟨a,r,rfl,q⟩:=uz h
 obtain⟨b,c,rfl⟩:=CC q
 exact⟨a,b,c,rfl⟩
theorem uA(h:us.length=4):∃ a b c d,us=[a,b,c,d]:=by
 obtain⟨a,r,rfl,q⟩:=uz h
 obtain⟨b,c,d,rfl⟩:=ww q
 exact⟨a,b,c,d,rfl⟩
theorem KQ(h:us.length=5):∃ a b c d e,us=[a,b,c,d,e]:=by
 obtain⟨a,r,rfl,q⟩:=uz h
 obtain⟨b,c,d,e,rfl⟩:=uA q
 exact⟨a,b,c,d,e,rfl⟩
theorem KR(h:us.length=6):∃ a b c d e f,us=[a,b,c,d,e,f]:=by
 obtain⟨a,r,rfl,q⟩:=uz h
 obtain⟨b,c,d,e,f,rfl⟩:=KQ q
 exact⟨a,b,c,d,e,f,rfl⟩
theorem Ot(h:us.length=7):∃ a b c d e f g,us=[a,b,c,d,e,f,g]:=by
 obtain⟨a,r,rfl,q⟩:=uz h
 obtain⟨b,c,d,e,f,g,rfl⟩:=KR q
 exact⟨a,b,c,d,e,f,g,rfl⟩
noncomputable def PD(i:Nat)(q m:Str)(t c:Nat):Vp:=nO (w9 i) q 3 [] .none (.str m t) (.ref c) .none 0
theorem oz.of {body:List Stmt} (h:∀ P,((KF P).lookup a).map (·.data)=some (.func fd)∧WR (KF P) fd.code fd.qualname=true)
  (q:(fd.body,fd.globals,fd.builtins,fd.closure,fd.scope.isCoroutine,fd.scope.isGenerator,fd.scope.kind)=(.stmts body,Q9,Ug,[],false,false,.function)):oz a fd body:=by
 simp only[VN] at q
 exact⟨fun P=>by
  obtain⟨⟨oc,od,dat,sl⟩,e,d⟩:=Qx.mp (h P).1
  exact⟨oc,od,sl,by rw[e,show dat=.func fd from d]⟩,q.1,q.2.1,q.2.2.1,q.2.2.2.1,q.2.2.2.2.1,q.2.2.2.2.2.1,q.2.2.2.2.2.2,fun P=>(h P).2⟩
theorem qF(h:(fun a=>SH fd ⟨[a],[]⟩)=fun a=>pure [(n0,a)]:=by kernel_rfl):∀ us:List QM,us.length=[n0].length→SH fd ⟨us,[]⟩=pure ([n0].zip us):=fun us q=>by
 obtain⟨a,rfl⟩:=yW q
 exact congrFun h a
theorem gf(h:(fun a b=>SH fd ⟨[a,b],[]⟩)=fun a b=>pure [(n0,a),(n1,b)]:=by kernel_rfl):∀ us:List QM,us.length=[n0,n1].length→SH fd ⟨us,[]⟩=pure ([n0,n1].zip us):=fun us q=>by
 obtain⟨a,b,rfl⟩:=CC q
 exact kY h a b
theorem oO(h:(fun a b c=>SH fd ⟨[a,b,c],[]⟩)=fun a b c=>pure [(n0,a),(n1,b),(n2,c)]:=by kernel_rfl):∀ us:List QM,us.length=[n0,n1,n2].length→SH fd ⟨us,[]⟩=pure ([n0,n1,n2].zip us):=fun us q=>by
 obtain⟨a,b,c,rfl⟩:=ww q
 exact kY (congrFun h a) b c
theorem xx(h:(fun a b c d=>SH fd ⟨[a,b,c,d],[]⟩)=fun a b c d=>pure [(n0,a),(n1,b),(n2,c),(n3,d)]:=by kernel_rfl):∀ us:List QM,us.length=[n0,n1,n2,n3].length→SH fd ⟨us,[]⟩=pure ([n0,n1,n2,n3].zip us):=fun us q=>by
 obtain⟨a,b,c,d,rfl⟩:=uA q
 exact kY (kY h a b) c d
theorem PE(h:(fun a b c d e=>SH fd ⟨[a,b,c,d,e],[]⟩)=fun a b c d e=>pure [(n0,a),(n1,b),(n2,c),(n3,d),(n4,e)]:=by kernel_rfl):∀ us:List QM,us.length=[n0,n1,n2,n3,n4].length→SH fd ⟨us,[]⟩=pure ([n0,n1,n2,n3,n4].zip us):=fun us q=>by
 obtain⟨a,b,c,d,e,rfl⟩:=KQ q
 exact kY (kY (congrFun h a) b c) d e
theorem PG(h:(fun a b c d e f=>SH fd ⟨[a,b,c,d,e,f],[]⟩)=fun a b c d e f=>pure [(n0,a),(n1,b),(n2,c),(n3,d),(n4,e),(n5,f)]:=by kernel_rfl):∀ us:List QM,us.length=[n0,n1,n2,n3,n4,n5].length→SH fd ⟨us,[]⟩=pure ([n0,n1,n2,n3,n4,n5].zip us):=fun us q=>by
 obtain⟨a,b,c,d,e,f,rfl⟩:=KR q
 exact kY (kY (kY h a b) c d) e f
noncomputable def PH:Sp:={ strHash:=fun _=>0,shareClass:=fun _=>0,mergeTok:=fun t=>t,idOf:=fun _=>0,idOfShared:=fun _ _=>0,followText:=fun _=>true,idOfImm:=fun _=>0 }
noncomputable def qG(o:OB):Vp:=match(o PH).data with
 | .func f=>f
 | _=>Ts
noncomputable def NR(o:OB):List Stmt:=match(qG o).body with
 | .stmts b=>b
 | _=>[]
noncomputable def κO(o:OB):Nm:=(qG o).scope.names
noncomputable def σO(o:OB):List Str:=((κO o).filter fun x=>x.2==.local||x.2==.cell).map (·.1)
theorem da (o:OB) (n:Nat) (hb:∀ us:List QM,us.length=((σO o).take n).length→SH (qG o) ⟨us,[]⟩=pure (((σO o).take n).zip us)) (B:fm d (κO o) (σO o) (NR o) f)
  (h:(fun P=>(((KF P).lookup a).map (·.data),WR (KF P) (qG o).code (qG o).qualname))=fun _=>(some (.func (qG o)),true):=by kernel_rfl)
  (q:((qG o).body,(qG o).globals,(qG o).builtins,(qG o).closure,(qG o).scope.isCoroutine,(qG o).scope.isGenerator,(qG o).scope.kind)=(.stmts (NR o),Q9,Ug,[],false,false,.function):=by kernel_rfl)
  (ndκ:((κO o).map (·.1)).Nodup:=by decide +kernel) (nd:(σO o).Nodup:=by decide +kernel) (hkd:∀ x∈(σO o).take n,(κO o).lookup x=some .local∨(κO o).lookup x=some .cell:=by decide +kernel):bt (d+1) a (bY ((σO o).take n).length ((σO o).drop n).length f) :=
 GR (.of (fun P=>Wz (congrFun h P)) q) rfl ndκ (by rw[Vn];exact nd) hkd hb (by rw[Vn];exact B)
def uB:SF:=(ah (fG [1,0] (ac (fh jZ (ac (aa 0) af)) (ac (fh jZ (ac (aa 1) af)) af))) (ah (eH (ao (am (aP fun a b=>a !=b) (aa 1) (ae (.int 0)))) (ah (fG [1,0] (ac (aa 1) (ac (am gO (aa 0) (aa 1)) af))) az) 100) (ah (aW (aa 0)) az)))
def lV:PF:=bY 2 0 uB
theorem uC:bt 1 98 lV:=da Nx 2 gf (au (gF (ns:=["a","b"]) (by decide) (.cons rfl rfl (.cons rfl rfl .nil)) (aB (iY oe (aO ab)) (iY oe (aO ab))) rfl (gI rfl)) (au (nS 100 (aK ig ab ai) (aD (gF (ns:=["a","b"]) (by decide) (.cons rfl rfl (.cons rfl rfl .nil)) (aB ab (bg lc ab ab)) rfl (gI rfl)))) (aD (aJ ab))))
def uD:SF:=(ah (aW (am bR (am fu (fh jZ (ac (aa 0) af)) (aI lV (ac (aa 0) (ac (aa 1) af)))) (fh jZ (ac (aa 1) af)))) az)
def rl:PF:=bY 2 0 uD
theorem FG:bt 2 105 rl:=da Jb 2 gf (aD (aJ (bg dG (bg mX (iY oe (aO ab)) (aR uC (aB ab ab))) (iY oe (aO ab)))))
def wx:SF:=(ah (bJ (ao (am (aP fun a b=>a==b) (aa 1) (ae (.int 0)))) (ah fq az) az) (ah (bQ 2 (aI lV (ac (aa 0) (ac (aa 1) af)))) (ah (bJ (ao (am (aP fun a b=>decide (a<b)) (aa 1) (ae (.int 0)))) (ah (bQ 2 (lO lR (aa 2))) az) az) (ah (aW (bp (ac (am fu (aa 0) (aa 2)) (ac (am fu (aa 1) (aa 2)) af)))) az))))
def og:PF:=bY 2 1 wx
theorem tK:bt 2 112 og:=da Jc 2 gf (au (aZ (aK bK ab ai) (aD ed) aX) (au (bH (aR uC (aB ab ab))) (au (aZ (aK qC ab ai) (aD (bH (qA sB ab))) aX) (aD (aJ (bD (aB (bg mX ab ab) (bg mX ab ab))))))))
def CD:SF:=(ah (bJ (sG (aP fun a b=>a==b) (aP fun a b=>a==b) (aq (aa 0) (ae (.int 1))) (aq (aa 1) (ae (.int 1))) (ae (.int 1))) (ah (aW (bp (ac (am iq (aq (aa 0) (ae (.int 0))) (aq (aa 1) (ae (.int 0)))) (ac (ae (.int 1)) af)))) az) az) (ah (aW (aI og (ac (am iq (am bR (aq (aa 0) (ae (.int 0))) (aq (aa 1) (ae (.int 1)))) (am bR (aq (aa 1) (ae (.int 0))) (aq (aa 0) (ae (.int 1))))) (ac (am bR (aq (aa 0) (ae (.int 1))) (aq (aa 1) (ae (.int 1)))) af)))) az))
def i5:PF:=bY 2 0 CD
theorem vC:bt 3 119 i5:=da Jd 2 gf (au (aZ (vB bK bK (aA ab ai) (aA ab ai) ai) (aD (aJ (bD (aB (bg jD (aA ab ai) (aA ab ai)) ai)))) aX) (aD (aJ (aR tK (aB (bg jD (bg dG (aA ab ai) (aA ab ai)) (bg dG (aA ab ai) (aA ab ai))) (bg dG (aA ab ai) (aA ab ai)))))))
def MQ:SF:=(ah (aW (bp (ac (lO lR (aq (aa 0) (ae (.int 0)))) (ac (aq (aa 0) (ae (.int 1))) af)))) az)
def vD:PF:=bY 1 0 MQ
theorem MR:bt 1 126 vD:=da Je 1 qF (aD (aJ (bD (aB (qA sB (aA ab ai)) (aA ab ai)))))
def CE:SF:=(ah (bJ (sG (aP fun a b=>a==b) (aP fun a b=>a==b) (aq (aa 0) (ae (.int 1))) (aq (aa 1) (ae (.int 1))) (ae (.int 1))) (ah (aW (bp (ac (am bR (aq (aa 0) (ae (.int 0))) (aq (aa 1) (ae (.int 0)))) (ac (ae (.int 1)) af)))) az) az) (ah (aW (aI og (ac (am bR (aq (aa 0) (ae (.int 0))) (aq (aa 1) (ae (.int 0)))) (ac (am bR (aq (aa 0) (ae (.int 1))) (aq (aa 1) (ae (.int 1)))) af)))) az))
def fH:PF:=bY 2 0 CE
theorem rn:bt 3 133 fH:=da Jf 2 gf (au (aZ (vB bK bK (aA ab ai) (aA ab ai) ai) (aD (aJ (bD (aB (bg dG (aA ab ai) (aA ab ai)) ai)))) aX) (aD (aJ (aR tK (aB (bg dG (aA ab ai) (aA ab ai)) (bg dG (aA ab ai) (aA ab ai)))))))
def CF:SF:=(ah (bJ (ao (am (aP fun a b=>a==b) (aq (aa 1) (ae (.int 0))) (ae (.int 0)))) (ah fq az) az) (ah (aW (aI og (ac (am bR (aq (aa 0) (ae (.int 0))) (aq (aa 1) (ae (.int 1)))) (ac (am bR (aq (aa 0) (ae (.int 1))) (aq (aa 1) (ae (.int 0)))) af)))) az))
def ro:PF:=bY 2 0 CF
theorem GY:bt 3 140 ro:=da Jg 2 gf (au (aZ (aK bK (aA ab ai) ai) (aD ed) aX) (aD (aJ (aR tK (aB (bg dG (aA ab ai) (aA ab ai)) (bg dG (aA ab ai) (aA ab ai)))))))
def sI:SF:=(ah (fG [3,2] (ac (am bR (aq (aa 0) (ae (.int 0))) (aq (aa 1) (ae (.int 1)))) (ac (am bR (aq (aa 1) (ae (.int 0))) (aq (aa 0) (ae (.int 1)))) af))) (ah (aW (am GV (am (aP fun a b=>decide (b<a)) (aa 2) (aa 3)) (am (aP fun a b=>decide (a<b)) (aa 2) (aa 3)))) az))
def sJ:PF:=bY 2 2 sI
theorem D1:bt 1 147 sJ:=da Jh 2 gf (au (gF (ns:=["left","right"]) (by decide) (.cons rfl rfl (.cons rfl rfl .nil)) (aB (bg dG (aA ab ai) (aA ab ai)) (bg dG (aA ab ai) (aA ab ai))) rfl (gI rfl)) (aD (aJ (bg HV (cU lf ab ab) (cU qC ab ab)))))
def CG:SF:=(ah (aW (am (aP fun a b=>a==b) (aq (aa 0) (ae (.int 1))) (ae (.int 1)))) az)
def fW:PF:=bY 1 0 CG
theorem rp:bt 1 154 fW:=da Ji 1 qF (aD (aJ (cU bK (aA ab ai) ai)))
def yX:SF:=(ah (bQ 5 (bp (ac (aa 1) (ac (aa 2) (ac (aa 3) (ac (aa 4) af)))))) (ah (bQ 6 (d8 "dict" Ck (aE 688 10 (aa 0)) (ac (aa 5) (ac (ae (.int 0)) af)))) (ah (bJ (ao (am (aP fun a b=>a==b) (aa 6) (ae (.int 0)))) (ah (bQ 6 (dw (ac (aE 688 6 (aa 0)) af))) (ah (cM (d8 "list" cK (aE 688 6 (aa 0)) (ac (aa 1) af))) (ah (cM (d8 "list" cK (aE 688 7 (aa 0)) (ac (aa 2) af))) (ah (cM (d8 "list" cK (aE 688 8 (aa 0)) (ac (aa 3) af))) (ah (cM (d8 "list" cK (aE 688 9 (aa 0)) (ac (aa 4) af))) (ah (yg (aa 6) (aE 688 10 (aa 0)) (aa 5)) az)))))) az) (ah (aW (aa 6)) az))))
def iH:PF:=bY 5 2 yX
theorem jE:bt 1 302 iH:=da Jr 5 PE (au (bH (bD (aQ ab (aQ ab (aB ab ab))))) (au (bH (dW DL Se R9 S4 (aG ab) (aB ab ai))) (au (aZ (aK bK ab ai) (au (bH (dO (aO (aG ab)))) (au (cL (dW dy QN QO QP (aG ab) (aO ab))) (au (cL (dW dy QN QO QP (aG ab) (aO ab))) (au (cL (dW dy QN QO QP (aG ab) (aO ab))) (au (cL (dW dy QN QO QP (aG ab) (aO ab))) (aD (DM ab (aG ab) ab))))))) aX) (aD (aJ ab)))))
def AQ:SF:=(ah (cJ 688 0 (dT (ac (ae (.str "Bool")) (ac (ae (.str "Int")) (ac (ae (.str "Real")) af)))) (aa 0)) (ah (cJ 688 1 (dT (ac (ae (.int 0)) (ac (ae (.int 0)) (ac (ae (.int 0)) af)))) (aa 0)) (ah (cJ 688 2 (fg af) (aa 0)) (ah (cJ 688 3 (fg af) (aa 0)) (ah (cJ 688 4 (fg af) (aa 0)) (ah (cJ 688 5 (ae (.int 0)) (aa 0)) (ah (cJ 688 6 (fg (ac (ae (.str "")) af)) (aa 0)) (ah (cJ 688 7 (fg (ac (bp af) af)) (aa 0)) (ah (cJ 688 8 (fg (ac (ae (.int 0)) af)) (aa 0)) (ah (cJ 688 9 (fg (ac (ae (.int 0)) af)) (aa 0)) (ah (cJ 688 10 Bg (aa 0)) (ah (cJ 688 11 (aC 688 iH (aa 0) (ac (ae (.str "true")) (ac (bp af) (ac (ae (.int 0)) (ac (ae (.int 0)) af))))) (aa 0)) (ah (cJ 688 12 (aC 688 iH (aa 0) (ac (ae (.str "false")) (ac (bp af) (ac (ae (.int 0)) (ac (ae (.int 0)) af))))) (aa 0)) az)))))))))))))
def t7:PF:=bY 1 0 AQ
theorem AR:bt 2 169 t7:=da EW 1 qF (au (cj (eh (aQ bc (aB bc bc))) ab) (au (cj (eh (aQ ai (aB ai ai))) ab) (au (cj (e7 cV) ab) (au (cj (e7 cV) ab) (au (cj (e7 cV) ab) (au (cj ai ab) (au (cj (e7 (aO bc)) ab) (au (cj (e7 (aO (bD cV))) ab) (au (cj (e7 (aO (bm gP))) ab) (au (cj (e7 (aO ai)) ab) (au (cj AJ ab) (au (cj (aF jE ab (aQ bc (aQ (bD cV) (aB (bm gP) ai)))) ab) (aD (cj (aF jE ab (aQ bc (aQ (bD cV) (aB (bm gP) ai)))) ab))))))))))))))
def uE:SF:=(ah (aW (Kv (am (aP fun a b=>a==b) (aa 1) (ae (.int 1))) (am (aP fun a b=>a==b) (aa 1) (ae (.int 2))))) az)
def d6:PF:=bY 2 0 uE
theorem kE:bt 1 197 d6:=da Jk 2 gf (aD (aJ (Be (cU bK ab (bm tJ)) (rc (cU bK ab (bm D0))))))
def x5:SF:=(ah (cM (d8 "list" cK (aE 688 2 (aa 0)) (ac (aa 1) af))) (ah (cM (d8 "list" cK (aE 688 3 (aa 0)) (ac (gd (ac (aa 2) af)) af))) (ah (cM (d8 "list" cK (aE 688 4 (aa 0)) (ac (aa 3) af))) (ah (aW (am eQ (dw (ac (aE 688 2 (aa 0)) af)) (ae (.int 1)))) az))))
def rV:PF:=bY 4 0 x5
theorem x6:bt 1 211 rV:=da Jl 4 xx (au (cL (dW dy QN QO QP (aG ab) (aO ab))) (au (cL (dW dy QN QO QP (aG ab) (aO (ii (aO ab))))) (au (cL (dW dy QN QO QP (aG ab) (aO ab))) (aD (aJ (bg ka (dO (aO (aG ab))) ai))))))
def x7:SF:=(ah (aW (aC 688 iH (aa 0) (ac (ae (.str "app")) (ac (bp af) (ac (aa 2) (ac (aC 688 rV (aa 0) (ac (aa 1) (ac (bp af) (ac (aa 2) af)))) af)))))) az)
def dB:PF:=bY 3 0 x7
theorem rW:bt 2 225 dB:=da Jm 3 oO (aD (aJ (aF jE ab (aQ bc (aQ (bD cV) (aB ab (aF x6 ab (aQ ab (aB (bD cV) ab)))))))))
def FH:SF:=(ah (aW (aq (aE 688 6 (aa 0)) (aa 1))) az)
def fj:PF:=bY 2 0 FH
theorem oP:bt 1 260 fj:=da Jn 2 gf (aD (aJ (aA (aG ab) ab)))
def yY:SF:=(ah (aW (aq (aE 688 7 (aa 0)) (aa 1))) az)
def gA:PF:=bY 2 0 yY
theorem lh:bt 1 267 gA:=da Jo 2 gf (aD (aJ (aA (aG ab) ab)))
def yZ:SF:=(ah (aW (aq (aE 688 8 (aa 0)) (aa 1))) az)
def eI:PF:=bY 2 0 yZ
theorem lk:bt 1 274 eI:=da Jp 2 gf (aD (aJ (aA (aG ab) ab)))
def y4:SF:=(ah (aW (aq (aE 688 9 (aa 0)) (aa 1))) az)
def kc:PF:=bY 2 0 y4
theorem y5:bt 1 281 kc:=da Jq 2 gf (aD (aJ (aA (aG ab) ab)))
def rq:SF:=(ah (aW (am iF (aq (aE 688 6 (aa 0)) (aa 1)) (ae (.tuple [.str "true",.str "false",.str "num",.str "bvnum"])))) az)
def fX:PF:=bY 2 0 rq
theorem lm:bt 1 316 fX:=da Js 2 gf (aD (aJ (cU tF (aA (aG ab) ab) (bm AP))))
def y6:SF:=(ah (bJ (ao (am (aP fun a b=>a !=b) (aq (aE 688 8 (aa 0)) (aa 1)) (aa 2))) (ah fq az) az) az)
def kf:PF:=bY 4 0 y6
theorem sK:bt 1 323 kf:=da Jt 4 xx (aD (aZ (aK ig (aA (aG ab) ab) ab) (aD ed) aX))
def CH:SF:=(ah (dM (cF (aa 1)) (bZ 4) (ah (cM (aC 688 kf (aa 0) (ac (aa 4) (ac (aa 2) (ac (aa 3) af))))) az)) az)
def jQ:PF:=bY 4 1 CH
theorem rt:bt 2 330 jQ:=da Ju 4 xx (aD (eP (cW ab) iN (aD (cL (aF sK ab (aQ ab (aB ab ab)))))))
def AS:SF:=(ah (aW (aE 688 11 (aa 0))) az)
def kg:PF:=bY 1 0 AS
theorem t8:bt 1 337 kg:=da Jv 1 qF (aD (aJ (aG ab)))
def y7:SF:=(ah (aW (aE 688 12 (aa 0))) az)
def jF:PF:=bY 1 0 y7
theorem sL:bt 1 344 jF:=da Jw 1 qF (aD (aJ (aG ab)))
def AT:SF:=(ah (aW (eV (ao (aa 1)) (aE 688 11 (aa 0)) (aE 688 12 (aa 0)))) az)
def ki:PF:=bY 2 0 AT
theorem ua:bt 1 351 ki:=da Jx 2 gf (aD (aJ (eL (dY ab) (aG ab) (aG ab))))
def oQ:SF:=(ah (cM (aC 688 kf (aa 0) (ac (aa 1) (ac (ae (.int 0)) (ac (ae (.str "not")) af))))) (ah (bJ (ao (am bS (aq (aE 688 6 (aa 0)) (aa 1)) (ae (.str "not")))) (ah (aW (aq (aq (aE 688 7 (aa 0)) (aa 1)) (ae (.int 0)))) az) az) (ah (bJ (ao (am (aP fun a b=>a==b) (aa 1) (aE 688 11 (aa 0)))) (ah (aW (aE 688 12 (aa 0))) az) az) (ah (bJ (ao (am (aP fun a b=>a==b) (aa 1) (aE 688 12 (aa 0)))) (ah (aW (aE 688 11 (aa 0))) az) az) (ah (aW (aC 688 iH (aa 0) (ac (ae (.str "not")) (ac (bp (ac (aa 1) af)) (ac (ae (.int 0)) (ac (ae (.int 0)) af)))))) az)))))
def fO:PF:=bY 2 0 oQ
theorem uF:bt 2 386 fO:=da Jy 2 gf (au (cL (aF sK ab (aQ ab (aB (bm gP) bc)))) (au (aZ (aK dq (aA (aG ab) ab) bc) (aD (aJ (aA (aA (aG ab) ab) ai))) aX) (au (aZ (aK bK ab (aG ab)) (aD (aJ (aG ab))) aX) (au (aZ (aK bK ab (aG ab)) (aD (aJ (aG ab))) aX) (aD (aJ (aF jE ab (aQ bc (aQ (bD (aO ab)) (aB (bm gP) ai))))))))))
def uG:SF:=(ah (cM (aC 688 jQ (aa 0) (ac (aa 1) (ac (ae (.int 0)) (ac (ae (.str "and")) af))))) (ah (bJ (ao (am (aP fun a b=>a==b) (dw (ac (aa 1) af)) (ae (.int 0)))) (ah (aW (aE 688 11 (aa 0))) az) az) (ah (aW (eV (ao (am (aP fun a b=>a==b) (dw (ac (aa 1) af)) (ae (.int 1)))) (aq (aa 1) (ae (.int 0))) (aC 688 iH (aa 0) (ac (ae (.str "and")) (ac (gd (ac (aa 1) af)) (ac (ae (.int 0)) (ac (ae (.int 0)) af))))))) az)))
def oR:PF:=bY 2 0 uG
theorem FJ:bt 3 393 oR:=da Jz 2 gf (au (cL (aF rt ab (aQ ab (aB (bm gP) bc)))) (au (aZ (aK bK (dO (aO ab)) ai) (aD (aJ (aG ab))) aX) (aD (aJ (eL (aK bK (dO (aO ab)) ai) (aA ab ai) (aF jE ab (aQ bc (aQ (ii (aO ab)) (aB (bm gP) ai)))))))))
def wy:SF:=(ah (cM (aC 688 jQ (aa 0) (ac (aa 1) (ac (ae (.int 0)) (ac (ae (.str "or")) af))))) (ah (bJ (ao (am (aP fun a b=>a==b) (dw (ac (aa 1) af)) (ae (.int 0)))) (ah (aW (aE 688 12 (aa 0))) az) az) (ah (aW (eV (ao (am (aP fun a b=>a==b) (dw (ac (aa 1) af)) (ae (.int 1)))) (aq (aa 1) (ae (.int 0))) (aC 688 iH (aa 0) (ac (ae (.str "or")) (ac (gd (ac (aa 1) af)) (ac (ae (.int 0)) (ac (ae (.int 0)) af))))))) az)))
def qH:PF:=bY 2 0 wy
theorem H9:bt 3 400 qH:=da JA 2 gf (au (cL (aF rt ab (aQ ab (aB (bm gP) bc)))) (au (aZ (aK bK (dO (aO ab)) ai) (aD (aJ (aG ab))) aX) (aD (aJ (eL (aK bK (dO (aO ab)) ai) (aA ab ai) (aF jE ab (aQ bc (aQ (ii (aO ab)) (aB (bm gP) ai)))))))))
def FK:SF:=(ah (cM (aC 688 kf (aa 0) (ac (aa 2) (ac (aq (aE 688 8 (aa 0)) (aa 1)) (ac (ae (.str "=")) af))))) (ah (bJ (ao (am (aP fun a b=>a==b) (aa 1) (aa 2))) (ah (aW (aE 688 11 (aa 0))) az) az) (ah (aW (aC 688 iH (aa 0) (ac (ae (.str "=")) (ac (bp (ac (fh Co (ac (aa 1) (ac (aa 2) af))) (ac (fh Cp (ac (aa 1) (ac (aa 2) af))) af))) (ac (ae (.int 0)) (ac (ae (.int 0)) af)))))) az)))
def sM:PF:=bY 3 0 FK
theorem CJ:bt 2 428 sM:=da JB 3 oO (au (cL (aF sK ab (aQ ab (aB (aA (aG ab) ab) bc)))) (au (aZ (aK bK ab ab) (aD (aJ (aG ab))) aX) (aD (aJ (aF jE ab (aQ bc (aQ (bD (aB (iY Fm (aB ab ab)) (iY Fo (aB ab ab)))) (aB (bm gP) ai))))))))
def MS:SF:=(ah (cM (aC 688 kf (aa 0) (ac (aa 1) (ac (ae (.int 0)) (ac (ae (.str "ite")) af))))) (ah (cM (aC 688 kf (aa 0) (ac (aa 3) (ac (aq (aE 688 8 (aa 0)) (aa 2)) (ac (ae (.str "ite")) af))))) (ah (aW (aC 688 iH (aa 0) (ac (ae (.str "ite")) (ac (bp (ac (aa 1) (ac (aa 2) (ac (aa 3) af)))) (ac (aq (aE 688 8 (aa 0)) (aa 2)) (ac (ae (.int 0)) af)))))) az)))
def pS:PF:=bY 4 0 MS
theorem CK:bt 2 442 pS:=da JC 4 xx (au (cL (aF sK ab (aQ ab (aB (bm gP) bc)))) (au (cL (aF sK ab (aQ ab (aB (aA (aG ab) ab) bc)))) (aD (aJ (aF jE ab (aQ bc (aQ (bD (aQ ab (aB ab ab))) (aB (aA (aG ab) ab) ai))))))))
def oS:SF:=(ah (bJ (jz (ao (am (aP fun a b=>decide (b<a)) (am wv (fh jZ (ac (aq (aa 0) (ae (.int 0))) af)) (ae (.int 65536))) (ae (.int 0)))) (ao (am (aP fun a b=>decide (b<a)) (am wv (aq (aa 0) (ae (.int 1))) (ae (.int 65536))) (ae (.int 0))))) (ah fq az) az) az)
def oT:PF:=bY 1 0 oS
theorem y8:bt 1 482 oT:=da JD 1 qF (aD (aZ (hE (aK lf (bg DW (iY oe (aO (aA ab ai))) (bm t6)) ai) (gr (aK lf (bg DW (aA ab ai) (bm t6)) ai))) (aD ed) aX))
def CL:SF:=(ah (bJ (ky (ao (aC 688 d6 (aa 0) (ac (aa 2) af)))) (ah fq az) az) (ah (bJ (gq (ao (am (aP fun a b=>a==b) (aa 2) (ae (.int 1)))) (ky (ao (aI fW (ac (aa 1) af))))) (ah fq az) az) (ah (cM (aI oT (ac (aa 1) af))) (ah (aW (aC 688 iH (aa 0) (ac (ae (.str "num")) (ac (bp af) (ac (aa 2) (ac (aa 1) af)))))) az))))
def fY:PF:=bY 3 0 CL
theorem pT:bt 2 496 fY:=da JE 3 oO (au (aZ (kA (dY (aF kE ab (aO ab)))) (aD ed) aX) (au (aZ (fN (aK bK ab (bm tJ)) (fE (kA (dY (aR rp (aO ab)))))) (aD ed) aX) (au (cL (aR y8 (aO ab))) (aD (aJ (aF jE ab (aQ bc (aQ (bD cV) (aB ab ab)))))))))
def nE:SF:=(ah (bJ (ky (ao (aC 688 d6 (aa 0) (ac (aq (aE 688 8 (aa 0)) (aa 1)) af)))) (ah fq az) az) az)
def kr:PF:=bY 3 0 nE
theorem rX:bt 2 503 kr:=da JF 3 oO (aD (aZ (kA (dY (aF kE ab (aO (aA (aG ab) ab))))) (aD ed) aX))
def y9:SF:=(ah (bJ (ao (am (aP fun a b=>a==b) (dw (ac (aa 1) af)) (ae (.int 0)))) (ah fq az) az) (ah (cM (aC 688 kr (aa 0) (ac (aq (aa 1) (ae (.int 0))) (ac (ae (.str "+")) af)))) (ah (cM (aC 688 jQ (aa 0) (ac (aa 1) (ac (aq (aE 688 8 (aa 0)) (aq (aa 1) (ae (.int 0)))) (ac (ae (.str "+")) af))))) (ah (aW (eV (ao (am (aP fun a b=>a==b) (dw (ac (aa 1) af)) (ae (.int 1)))) (aq (aa 1) (ae (.int 0))) (aC 688 iH (aa 0) (ac (ae (.str "+")) (ac (gd (ac (aa 1) af)) (ac (aq (aE 688 8 (aa 0)) (aq (aa 1) (ae (.int 0)))) (ac (ae (.int 0)) af))))))) az))))
def oU:PF:=bY 2 0 y9
theorem D2:bt 3 510 oU:=da JG 2 gf (au (aZ (aK bK (dO (aO ab)) ai) (aD ed) aX) (au (cL (aF rX ab (aB (aA ab ai) bc))) (au (cL (aF rt ab (aQ ab (aB (aA (aG ab) (aA ab ai)) bc)))) (aD (aJ (eL (aK bK (dO (aO ab)) ai) (aA ab ai) (aF jE ab (aQ bc (aQ (ii (aO ab)) (aB (aA (aG ab) (aA ab ai)) ai))))))))))
def qg:SF:=(ah (cM (aC 688 kr (aa 0) (ac (aa 2) (ac (ae (.str "*")) af)))) (ah (bQ 3 (aq (aE 688 8 (aa 0)) (aa 2))) (ah (bJ (ao (am bS (aq (aE 688 6 (aa 0)) (aa 2)) (ae (.str "num")))) (ah (aW (aC 688 fY (aa 0) (ac (aI fH (ac (aa 1) (ac (aq (aE 688 9 (aa 0)) (aa 2)) af))) (ac (aa 3) af)))) az) az) (ah (aW (eV (ao (am bS (aa 1) (bp (ac (ae (.int 1)) (ac (ae (.int 1)) af))))) (aa 2) (aC 688 iH (aa 0) (ac (ae (.str "*")) (ac (bp (ac (aC 688 fY (aa 0) (ac (aa 1) (ac (aa 3) af))) (ac (aa 2) af))) (ac (aa 3) (ac (ae (.int 0)) af))))))) az))))
def ir:PF:=bY 3 1 qg
theorem ub:bt 4 517 ir:=da JH 3 oO (au (cL (aF rX ab (aB ab bc))) (au (bH (aA (aG ab) ab)) (au (aZ (aK dq (aA (aG ab) ab) bc) (aD (aJ (aF pT ab (aB (aR rn (aB ab (aA (aG ab) ab))) ab)))) aX) (aD (aJ (eL (aK dq ab (bD (aB ai ai))) ab (aF jE ab (aQ bc (aQ (bD (aB (aF pT ab (aB ab ab)) ab)) (aB ab ai))))))))))
def uc:SF:=(ah (cJ 688 13 oC (aa 0)) az)
theorem AU:fm 2 κT ["self"] ((jf (j8 28 0)).drop 1) uc:=by
 show fm _ _ _ (_::_) _
 exact(aD (cj nR ab))
def kj:PF:=GX t7 uc
theorem AV:bt 3 587 kj:=FD rfl (AR.le (by decide)) AU
def qh:SF:=(ah (cJ 740 0 oC (aa 0)) (ah (cJ 740 1 (ae (.tuple [.int 0,.int 1])) (aa 0)) az))
def fZ:PF:=bY 1 0 qh
theorem ud:bt 1 704 fZ:=da JJ 1 qF (au (cj nR ab) (aD (cj (bm sH) ab)))
def ru:SF:=(ah (bQ 3 (aI i5 (ac (d8 "dict" kp (aE 740 0 (aa 0)) (ac (aa 1) (ac (ae (.tuple [.int 0,.int 1])) af))) (ac (aa 2) af)))) (ah (bJ (ao (am (aP fun a b=>a !=b) (aq (aa 3) (ae (.int 0))) (ae (.int 0)))) (ah (gj (aa 3) (aE 740 0 (aa 0)) (aa 1)) az) (ah (bJ (ao (vq (aa 1) (aE 740 0 (aa 0)))) (ah (Ci (aE 740 0 (aa 0)) (aa 1)) az) az) az)) az))
def eZ:PF:=bY 3 1 ru
theorem ry:bt 4 711 eZ:=da JK 3 oO (au (bH (aR vC (aB (dW sy Se R9 S4 (aG ab) (aB ab (bm sH))) ab))) (aD (aZ (aK ig (aA ab ai) ai) (aD (j9 ab (aG ab) ab)) (aD (aZ (Bj ab (aG ab)) (aD (Fi (aG ab) ab)) aX)))))
def lW:SF:=(ah (cJ 740 1 (aI i5 (ac (aE 740 1 (aa 0)) (ac (aa 1) af))) (aa 0)) az)
def iI:PF:=bY 2 0 lW
theorem wz:bt 4 718 iI:=da JL 2 gf (aD (cj (aR vC (aB (aG ab) ab)) ab))
def rz:SF:=(ah (bJ (ao (am (aP fun a b=>a==b) (aq (aa 2) (ae (.int 0))) (ae (.int 0)))) (ah (aW (ae .none)) az) az) (ah (dM (cF (je (ac (aE 740 0 (aa 1)) af))) (bZ 3) (ah (cM (aC 740 eZ (aa 0) (ac (aa 3) (ac (aI fH (ac (aq (aE 740 0 (aa 1)) (aa 3)) (ac (aa 2) af))) af)))) az)) (ah (cJ 740 1 (aI i5 (ac (aE 740 1 (aa 0)) (ac (aI fH (ac (aE 740 1 (aa 1)) (ac (aa 2) af))) af))) (aa 0)) az)))
def nZ:PF:=bY 3 1 rz
theorem CM:bt 5 725 nZ:=da JM 3 oO (au (aZ (aK bK (aA ab ai) ai) (aD yv) aX) (au (eP (cW (nV (aO (aG ab)))) iN (aD (cL (aF ry ab (aB ab (aR rn (aB (aA (aG ab) ab) ab))))))) (aD (cj (aR vC (aB (aG ab) (aR rn (aB (aG ab) ab)))) ab))))
def lX:SF:=(ah (aW (gd (ac (fV (cF (je (ac (aE 740 0 (aa 0)) af))) 1 [0] (bZ 0) dn (cq (bp (ac (aa 0) (ac (aq (aE 740 0 (aa 1)) (aa 0)) af))))) af))) az)
def e8:PF:=bY 1 0 lX
theorem qI:bt 1 730 e8:=da JN 1 qF (aD (aJ (ii (aO (ie (⟨rfl,by decide,by decide,rfl,by decide,by decide,rfl,by decide⟩:eW _ _ _ [(".0",.local),("term",.local),("self",.cell)] ["term"] ["self"] [0]) (cW (nV (aO (aG ab)))) eM eU (fun _ _ _=>ef rfl rfl) (dk (bD (aB ab (aA (aG ab) ab)))))))))
def sN:SF:=(ah (bQ 2 (iZ 740 fZ af)) (ah (bQ 3 (mZ (gU (aa 1) (ae (.tuple [.int 1,.int 1])) sF))) (ah (eH (ao (am (aP fun a b=>decide (b<a)) (dw (ac (aa 3) af)) (ae (.int 0)))) (ah (bQ 4 (yh (ac (aa 3) af))) (ah (bQ 5 (d8 "dict" yd (aa 3) (ac (aa 4) af))) (ah (fG [7,6] (ac (aC 688 fj (aa 0) (ac (aa 4) af)) (ac (aC 688 gA (aa 0) (ac (aa 4) af)) af))) (ah (bJ (ao (am bS (aa 6) (ae (.str "num")))) (ah (cM (aC 740 iI (aa 2) (ac (aI fH (ac (aC 688 kc (aa 0) (ac (aa 4) af)) (ac (aa 5) af))) af))) az) (ah (bJ (ao (am bS (aa 6) (ae (.str "+")))) (ah (dM (cF (aa 7)) (bZ 8) (ah (gj (aI i5 (ac (d8 "dict" kp (aa 3) (ac (aa 8) (ac (ae (.tuple [.int 0,.int 1])) af))) (ac (aa 5) af))) (aa 3) (aa 8)) az)) az) (ah (bJ (gq (ao (am bS (aa 6) (ae (.str "*")))) (ao (am bS (aC 688 fj (aa 0) (ac (aq (aa 7) (ae (.int 0))) af)) (ae (.str "num"))))) (ah (bQ 9 (aI fH (ac (aC 688 kc (aa 0) (ac (aq (aa 7) (ae (.int 0))) af)) (ac (aa 5) af)))) (ah (gj (aI i5 (ac (d8 "dict" kp (aa 3) (ac (aq (aa 7) (ae (.int 1))) (ac (ae (.tuple [.int 0,.int 1])) af))) (ac (aa 9) af))) (aa 3) (aq (aa 7) (ae (.int 1)))) az)) (ah (bJ (ao (am (aP fun a b=>a !=b) (aq (aa 5) (ae (.int 0))) (ae (.int 0)))) (ah (cM (aC 740 eZ (aa 2) (ac (aa 4) (ac (aa 5) af)))) az) az) az)) az)) az)) az)))) 200) (ah (aW (aa 2)) az))))
def m7:PF:=bY 2 8 sN
theorem xy:bt 5 751 m7:=da JO 2 gf (au (bH (pR ud cV)) (au (bH (vz (pO ab (bm (x:="ONE_ratios") oN) yT) (by simp) (by simp))) (au (nS 200 (aK lf (dO (aO ab)) ai) (au (bH (DO (aO ab))) (au (bH (dW DF Se Vh PySem.F.type_dict_pop ab (aO ab))) (au (gF (ns:=["op","args"]) (by decide) (.cons rfl rfl (.cons rfl rfl .nil)) (aB (aF oP ab (aO ab)) (aF lh ab (aO ab))) rfl (gI rfl)) (aD (aZ (aK dq ab bc) (aD (cL (aF wz ab (aO (aR rn (aB (aF y5 ab (aO ab)) ab)))))) (aD (aZ (aK dq ab bc) (aD (eP (cW ab) iN (aD (j9 (aR vC (aB (dW sy Se R9 S4 ab (aB ab (bm sH))) ab)) ab ab)))) (aD (aZ (fN (aK dq ab bc) (fE (aK dq (aF oP ab (aO (aA ab ai))) bc))) (au (bH (aR rn (aB (aF y5 ab (aO (aA ab ai))) ab))) (aD (j9 (aR vC (aB (dW sy Se R9 S4 ab (aB (aA ab ai) (bm sH))) ab)) ab (aA ab ai)))) (aD (aZ (aK ig (aA ab ai) ai) (aD (cL (aF ry ab (aB ab ab)))) aX)))))))))))) (aD (aJ ab)))))
def lq:SF:=(ah (bQ 3 (aI m7 (ac (aa 0) (ac (aa 1) af)))) (ah (cM (aC 740 nZ (aa 3) (ac (aI m7 (ac (aa 0) (ac (aa 2) af))) (ac (ae (.tuple [.int (-1),.int 1])) af)))) (ah (aW (aa 3)) az)))
def gk:PF:=bY 3 1 lq
theorem pU:bt 6 758 gk:=da JP 3 oO (au (bH (aR xy (aB ab ab))) (au (cL (aF CM ab (aB (aR xy (aB ab ab)) (bm m6)))) (aD (aJ ab))))
def nF:SF:=(ah (aW (bp (ac (aC 740 e8 (aa 0) af) (ac (aa 1) (ac (aI vD (ac (aE 740 1 (aa 0)) af)) af))))) az)
def hV:PF:=bY 2 0 nF
theorem rY:bt 2 765 hV:=da JQ 2 gf (aD (aJ (bD (aQ (aF qI ab cV) (aB ab (aR MR (aO (aG ab))))))))
def oV:SF:=(ah (gC [2,3,4] (aa 0)) (ah (bQ 5 (gd (ac (fV (cF (aa 2)) 2 [1] (eG [0,1]) dn (cq (bp (ac (aa 0) (ac (aI fH (ac (aa 1) (ac (aa 2) af))) af))))) af))) (ah (aW (bp (ac (aa 5) (ac (aa 3) (ac (aI fH (ac (aa 4) (ac (aa 1) af))) af))))) az)))
def lu:PF:=bY 2 4 oV
theorem sO:bt 4 770 lu:=da JR 2 gf (au (jC ab (nc (nc (nc nn)))) (au (bH (ii (aO (ie (⟨rfl,by decide,by decide,rfl,by decide,by decide,rfl,by decide⟩:eW _ _ _ [(".0",.local),("term",.local),("own",.local),("mul",.globalImplicit),("factor",.cell)] ["term","own"] ["factor"] [1]) (cW ab) (mY (nc (nc nn))) eU (fun _ _ _=>ef rfl rfl) (dk (bD (aB ab (aR rn (aB ab ab))))))))) (aD (aJ (bD (aQ ab (aB ab (aR rn (aB ab ab)))))))))
def lY:SF:=(ah (oG [1,2] (ac (ae (.int 1)) (ac (ae (.int 0)) af))) (ah (dM (cF (aq (aa 0) (ae (.int 0)))) (eG [3,4]) (ah (bQ 1 (aI rl (ac (aa 1) (ac (aq (aa 4) (ae (.int 1))) af)))) az)) (ah (dM (cF (aq (aa 0) (ae (.int 0)))) (eG [3,4]) (ah (bQ 2 (aI lV (ac (aa 2) (ac (am bR (aq (aa 4) (ae (.int 0))) (am fu (aa 1) (aq (aa 4) (ae (.int 1))))) af)))) az)) (ah (aW (eV (ao (am (aP fun a b=>a==b) (aa 2) (ae (.int 0)))) (ae (.tuple [.int 1,.int 1])) (aI og (ac (aa 1) (ac (aa 2) af))))) az))))
def lZ:PF:=bY 1 4 lY
theorem wG:bt 3 777 lZ:=da JS 1 qF (au (uw (by decide) (nc (nc nn)) (aB ai ai) rfl (gI rfl)) (au (eP (cW (aA ab ai)) (iU (nc (nc nn))) (aD (bH (aR FG (aB ab (aA ab ai)))))) (au (eP (cW (aA ab ai)) (iU (nc (nc nn))) (aD (bH (aR uC (aB ab (bg dG (aA ab ai) (bg mX ab (aA ab ai)))))))) (aD (aJ (eL (aK bK ab ai) (bm oN) (aR tK (aB ab ab))))))))
def qi:SF:=(ah (bQ 1 (aI lu (ac (aa 0) (ac (aI lZ (ac (aa 0) af)) af)))) (ah (bJ (gq (ao (am bS (aq (aa 1) (ae (.int 1))) (ae (.str "=")))) (gq (ao (am (aP fun a b=>decide (b<a)) (dw (ac (aq (aa 1) (ae (.int 0))) af)) (ae (.int 0)))) (ao (am (aP fun a b=>decide (a<b)) (aq (aq (aq (aq (aa 1) (ae (.int 0))) (ae (.int 0))) (ae (.int 1))) (ae (.int 0))) (ae (.int 0)))))) (ah (bQ 1 (aI lu (ac (aa 1) (ac (ae (.tuple [.int (-1),.int 1])) af)))) az) az) (ah (aW (aa 1)) az)))
def jo:PF:=bY 1 1 qi
theorem qj:bt 5 784 jo:=da JT 1 qF (au (bH (aR sO (aB ab (aR wG (aO ab))))) (au (aZ (fN (aK dq (aA ab ai) bc) (fN (aK lf (dO (aO (aA ab ai))) ai) (fE (aK qC (aA (aA (aA (aA ab ai) ai) ai) ai) ai)))) (aD (bH (aR sO (aB ab (bm m6))))) aX) (aD (aJ ab))))
def j0:SF:=(ah (dM (cF (aq (aa 1) (ae (.int 0)))) (eG [2,3]) (ah (bJ (jz (ao (am (aP fun a b=>a !=b) (aC 688 eI (aa 0) (ac (aa 2) af)) (ae (.int 1)))) (ky (ao (aI fW (ac (aa 3) af))))) (ah (aW (ae (.bool false))) az) az) az)) (ah (aW (ae (.bool true))) az))
def iA:PF:=bY 2 2 j0
theorem tV:bt 2 791 iA:=da JU 2 gf (au (eP (cW (aA ab ai)) (iU (nc (nc nn))) (aD (aZ (hE (aK ig (aF lk ab (aO ab)) (bm tJ)) (gr (kA (dY (aR rp (aO ab)))))) (aD (aJ fD)) aX))) (aD (aJ fD)))
def km:SF:=(ah (gC [1,2,3] (aa 0)) (ah (bJ (ao (am (aP fun a b=>decide (b<a)) (dw (ac (aa 1) af)) (ae (.int 0)))) (ah (aW (ae .none)) az) az) (ah (bQ 4 (aI sJ (ac (ae (.tuple [.int 0,.int 1])) (ac (aa 3) af)))) (ah (bJ (ao (am bS (aa 2) (ae (.str "=")))) (ah (aW (am (aP fun a b=>a==b) (aa 4) (ae (.int 0)))) az) az) (ah (aW (Kv (am (aP fun a b=>decide (a<b)) (aa 4) (ae (.int 0))) (wj (am (aP fun a b=>a==b) (aa 4) (ae (.int 0))) (am bS (aa 2) (ae (.str "<=")))))) az)))))
def iu:PF:=bY 1 4 km
theorem qk:bt 2 798 iu:=da JV 1 qF (au (jC ab (nc (nc (nc nn)))) (au (aZ (aK lf (dO (aO ab)) ai) (aD (aJ xg)) aX) (au (bH (aR D1 (aB (bm sH) ab))) (au (aZ (aK dq ab bc) (aD (aJ (cU bK ab ai))) aX) (aD (aJ (Be (cU qC ab ai) (rc (uq (cU bK ab ai) (rc (cU dq ab bc)))))))))))
def nG:SF:=(ah (bQ 2 (aI iu (ac (aa 1) af))) (ah (bJ (ao (jn false (aa 2))) (ah (aW (sn (aa 2))) az) az) (ah (bQ 3 (aI jo (ac (aa 1) af))) (ah (aW (wj (am bS (aq (aa 3) (ae (.int 1))) (ae (.str "="))) (wj (aI iA (ac (aa 0) (ac (aa 3) af))) (sn (aI fW (ac (aq (aa 3) (ae (.int 2))) af)))))) az))))
def gv:PF:=bY 2 2 nG
theorem rZ:bt 6 805 gv:=da JW 2 gf (au (bH (aR qk (aO ab))) (au (aZ (nU ab) (aD (aJ (uo ab))) aX) (au (bH (aR qj (aO ab))) (aD (aJ (uq (cU dq (aA ab ai) bc) (uq (aR tV (aB ab ab)) (rc (uo (aR rp (aO (aA ab ai))))))))))))
def ma:SF:=(ah (bQ 3 (fg af)) (ah (dM (cF (aC 740 e8 (aa 1) af)) (eG [4,5]) (ah (cM (d8 "list" cK (aa 3) (ac (eV (ao (am bS (aa 5) (ae (.tuple [.int 1,.int 1])))) (aa 4) (aC 688 ir (aa 0) (ac (aa 5) (ac (aa 4) af)))) af))) az)) (ah (bJ (jz (ao (am (aP fun a b=>a !=b) (aq (aE 740 1 (aa 1)) (ae (.int 0))) (ae (.int 0)))) (ao (am (aP fun a b=>a==b) (dw (ac (aa 3) af)) (ae (.int 0))))) (ah (cM (d8 "list" cK (aa 3) (ac (aC 688 fY (aa 0) (ac (aE 740 1 (aa 1)) (ac (aa 2) af))) af))) az) az) (ah (aW (eV (ao (am (aP fun a b=>a==b) (dw (ac (aa 3) af)) (ae (.int 1)))) (aq (aa 3) (ae (.int 0))) (aC 688 oU (aa 0) (ac (gd (ac (aa 3) af)) af)))) az))))
def jR:PF:=bY 3 3 ma
theorem wH:bt 5 812 jR:=da JX 3 oO (au (bH (e7 cV)) (au (eP (cW (aF qI ab cV)) (iU (nc (nc nn))) (aD (cL (dW dy QN QO QP ab (aO (eL (aK dq ab (bm oN)) ab (aF ub ab (aB ab ab)))))))) (au (aZ (hE (aK ig (aA (aG ab) ai) ai) (gr (aK bK (dO (aO ab)) ai))) (aD (cL (dW dy QN QO QP ab (aO (aF pT ab (aB (aG ab) ab)))))) aX) (aD (aJ (eL (aK bK (dO (aO ab)) ai) (aA ab ai) (aF D2 ab (aO (ii (aO ab))))))))))
def nH:SF:=(ah (bQ 3 (iZ 740 fZ af)) (ah (dM (cF (aq (aa 1) (ae (.int 0)))) (eG [4,5]) (ah (cM (aC 740 eZ (aa 3) (ac (aa 4) (ac (aa 5) af)))) az)) (ah (fG [7,6] (ac (aI jR (ac (aa 0) (ac (aa 3) (ac (aa 2) af)))) (ac (aC 688 fY (aa 0) (ac (aq (aa 1) (ae (.int 2))) (ac (aa 2) af))) af))) (ah (bJ (ao (am bS (aq (aa 1) (ae (.int 1))) (ae (.str "=")))) (ah (aW (aC 688 sM (aa 0) (ac (aa 6) (ac (aa 7) af)))) az) az) (ah fq az)))))
def jg:PF:=bY 3 5 nH
theorem r8:bt 6 819 jg:=da JY 3 oO (au (bH (pR ud cV)) (au (eP (cW (aA ab ai)) (iU (nc (nc nn))) (aD (cL (aF ry ab (aB ab ab))))) (au (gF (ns:=["left","right"]) (by decide) (.cons rfl rfl (.cons rfl rfl .nil)) (aB (aR wH (aQ ab (aB ab ab))) (aF pT ab (aB (aA ab ai) ab))) rfl (gI rfl)) (au (aZ (aK dq (aA ab ai) bc) (aD (aJ (aF CJ ab (aB ab ab)))) aX) (aD ed)))))
def CN:SF:=(ah (cJ 1002 0 (aa 1) (aa 0)) (ah (cJ 1002 1 (aC 688 kg (aa 1) af) (aa 0)) (ah (cJ 1002 2 (aC 688 jF (aa 1) af) (aa 0)) (ah (cJ 1002 3 oC (aa 0)) az))))
def n6:PF:=bY 2 0 CN
theorem CO:bt 2 835 n6:=da J1 2 gf (au (cj ab ab) (au (cj (aF t8 ab cV) ab) (au (cj (aF sL ab cV) ab) (aD (cj nR ab)))))
def za:SF:=(ah (gC [3,4] (eV (ao (am bS (aa 1) (ae (.str "and")))) (bp (ac (aE 1002 1 (aa 0)) (ac (aE 1002 2 (aa 0)) af))) (bp (ac (aE 1002 2 (aa 0)) (ac (aE 1002 1 (aa 0)) af))))) (ah (fG [6,5] (ac oC (ac (Cy (ac (aa 2) af)) af))) (ah (eH (ao (am (aP fun a b=>decide (b<a)) (dw (ac (aa 6) af)) (ae (.int 0)))) (ah (bQ 7 (d8 "list" vx (aa 6) af)) (ah (bJ (ao (am (aP fun a b=>a==b) (aa 7) (aa 3))) (ah (fun ρ Xx=>some (.cont,ρ,Xx)) az) az) (ah (bJ (jz (ao (am (aP fun a b=>a==b) (aa 7) (aa 4))) (ao (vq (aC 688 fO (aE 1002 0 (aa 0)) (ac (aa 7) af)) (aa 5)))) (ah (aW (ae .none)) az) az) (ah (bJ (ao (am bS (aC 688 fj (aE 1002 0 (aa 0)) (ac (aa 7) af)) (aa 1))) (ah fq az) (ah (gj (ae (.bool true)) (aa 5) (aa 7)) az)) az)))) 10) (ah (aW (aa 5)) az))))
def sP:PF:=bY 3 5 za
theorem D3:bt 3 856 sP:=da J2 3 oO (au (jC (eL (aK dq ab bc) (bD (aB (aG ab) (aG ab))) (bD (aB (aG ab) (aG ab)))) (nc (nc nn))) (au (gF (ns:=["found","stack"]) (by decide) (.cons rfl rfl (.cons rfl rfl .nil)) (aB nR (yS KM PyProof.Rows.boot_list CB AN (aO ab))) rfl (gI rfl)) (au (nS 10 (aK lf (dO (aO ab)) ai) (au (bH (dW DX QN Vl PySem.F.type_list_pop ab cV)) (au (aZ (aK bK ab ab) (aD xi) aX) (au (aZ (hE (aK bK ab ab) (gr (Bj (aF uF (aG ab) (aO ab)) ab))) (aD (aJ xg)) aX) (aD (aZ (aK dq (aF oP (aG ab) (aO ab)) ab) (aD ed) (aD (j9 fD ab ab)))))))) (aD (aJ ab)))))
def sQ:SF:=(ah (bQ 3 (fg af)) (ah (dM (cF (je (ac (aa 2) af))) (bZ 4) (ah (bJ (ao (am mW (aC 688 fj (aE 1002 0 (aa 0)) (ac (aa 4) af)) (aa 1))) (ah (cM (d8 "list" cK (aa 3) (ac (aa 4) af))) (ah (fun ρ Xx=>some (.cont,ρ,Xx)) az)) az) (ah fq (ah (dN 5 (cF (aC 688 gA (aE 1002 0 (aa 0)) (ac (aa 4) af))) 1 [2,0] (bZ 0) (ao (am lg (aC 688 fO (aE 1002 0 (aa 2)) (ac (aa 0) af)) (aa 1))) (cq (aa 0))) (ah (cM (d8 "list" cK (aa 3) (ac (eV (ao (am (aP fun a b=>a==b) (dw (ac (aa 5) af)) (dw (ac (aC 688 gA (aE 1002 0 (aa 0)) (ac (aa 4) af)) af)))) (aa 4) Ca) af))) az))))) (ah (aW (aa 3)) az)))
def m8:PF:=bY 3 3 sQ
theorem D4:bt 3 861 m8:=da J3 3 oO (au (bH (e7 cV)) (au (eP (cW (nV (aO ab))) iN (au (aZ (aK yf (aF oP (aG ab) (aO ab)) ab) (au (cL (dW dy QN QO QP ab (aO ab))) (aD xi)) aX) (au ed (au (iD (⟨rfl,by decide,by decide,rfl,by decide,by decide,rfl,by decide⟩:eW _ _ _ [(".0",.local),("one",.local),("found",.cell),("self",.cell)] ["one"] ["found","self"] [2,0]) rfl (by decide) rfl rfl rfl (cW (aF lh (aG ab) (aO ab))) eM (pL (aK yO (aF uF (aG ab) (aO ab)) ab)) (fun _ _ _=>ef rfl rfl) (dk ab)) (aD (cL (dW dy QN QO QP ab (aO (eL (aK bK (dO (aO ab)) (dO (aO (aF lh (aG ab) (aO ab))))) ab Dw))))))))) (aD (aJ ab))))
def uH:SF:=(ah (gC [3,4] (eV (ao (am bS (aa 1) (ae (.str "and")))) (bp (ac (aE 1002 2 (aa 0)) (ac (ae (.str "or")) af))) (bp (ac (aE 1002 1 (aa 0)) (ac (ae (.str "and")) af))))) (ah (bQ 5 (aC 1002 sP (aa 0) (ac (aa 1) (ac (aa 2) af)))) (ah (eH (ao (jn false (aa 5))) (ah (bQ 6 (aC 1002 m8 (aa 0) (ac (aa 4) (ac (aa 5) af)))) (ah (bJ (ao (wt true (aa 6) (je (ac (aa 5) af)))) (ah (aW (eV (ao (am bS (aa 1) (ae (.str "and")))) (aC 688 oR (aE 1002 0 (aa 0)) (ac (aa 6) af)) (aC 688 qH (aE 1002 0 (aa 0)) (ac (aa 6) af)))) az) az) (ah (bQ 5 (aC 1002 sP (aa 0) (ac (aa 1) (ac (aa 6) af)))) az))) 3) (ah (aW (aa 3)) az))))
def mc:PF:=bY 3 4 uH
theorem rA:bt 4 868 mc:=da J4 3 oO (au (jC (eL (aK dq ab bc) (bD (aB (aG ab) bc)) (bD (aB (aG ab) bc))) (nc (nc nn))) (au (bH (aF D3 ab (aB ab ab))) (au (nS 3 (nU ab) (au (bH (aF D4 ab (aB ab ab))) (au (aZ (Fq ab (nV (aO ab))) (aD (aJ (eL (aK dq ab bc) (aF FJ (aG ab) (aO ab)) (aF H9 (aG ab) (aO ab))))) aX) (aD (bH (aF D3 ab (aB ab ab))))))) (aD (aJ ab)))))
def sR:SF:=(ah (aW (aC 688 fO (aE 1002 0 (aa 0)) (ac (aa 1) af))) az)
def ij:PF:=bY 2 0 sR
theorem kO:bt 3 875 ij:=da J5 2 gf (aD (aJ (aF uF (aG ab) (aO ab))))
def jh:SF:=(ah (bJ (jz (ao (am (aP fun a b=>a==b) (aa 2) (aE 1002 1 (aa 0)))) (ao (am (aP fun a b=>a==b) (aa 2) (aa 1)))) (ah (aW (aC 1002 mc (aa 0) (ac (ae (.str "or")) (ac (dT (ac (aa 1) (ac (aa 3) af))) af)))) az) az) (ah (bJ (jz (ao (am (aP fun a b=>a==b) (aa 2) (aE 1002 2 (aa 0)))) (ao (am (aP fun a b=>a==b) (aa 2) (aC 1002 ij (aa 0) (ac (aa 1) af))))) (ah (aW (aC 1002 mc (aa 0) (ac (ae (.str "and")) (ac (dT (ac (aC 1002 ij (aa 0) (ac (aa 1) af)) (ac (aa 3) af))) af)))) az) az) (ah (bJ (jz (ao (am (aP fun a b=>a==b) (aa 3) (aE 1002 1 (aa 0)))) (ao (am (aP fun a b=>a==b) (aa 3) (aC 1002 ij (aa 0) (ac (aa 1) af))))) (ah (aW (aC 1002 mc (aa 0) (ac (ae (.str "or")) (ac (dT (ac (aC 1002 ij (aa 0) (ac (aa 1) af)) (ac (aa 2) af))) af)))) az) az) (ah (bJ (jz (ao (am (aP fun a b=>a==b) (aa 3) (aE 1002 2 (aa 0)))) (ao (am (aP fun a b=>a==b) (aa 3) (aa 1)))) (ah (aW (aC 1002 mc (aa 0) (ac (ae (.str "and")) (ac (dT (ac (aa 1) (ac (aa 2) af))) af)))) az) az) (ah (bJ (ao (am (aP fun a b=>a==b) (aa 2) (aC 1002 ij (aa 0) (ac (aa 3) af)))) (ah fq az) az) (ah (aW (aC 688 pS (aE 1002 0 (aa 0)) (ac (aa 1) (ac (aa 2) (ac (aa 3) af))))) az))))))
def nJ:PF:=bY 4 0 jh
theorem x8:bt 5 896 nJ:=da J6 4 xx (au (aZ (hE (aK bK ab (aG ab)) (gr (aK bK ab ab))) (aD (aJ (aF rA ab (aB bc (eh (aB ab ab)))))) aX) (au (aZ (hE (aK bK ab (aG ab)) (gr (aK bK ab (aF kO ab (aO ab))))) (aD (aJ (aF rA ab (aB bc (eh (aB (aF kO ab (aO ab)) ab)))))) aX) (au (aZ (hE (aK bK ab (aG ab)) (gr (aK bK ab (aF kO ab (aO ab))))) (aD (aJ (aF rA ab (aB bc (eh (aB (aF kO ab (aO ab)) ab)))))) aX) (au (aZ (hE (aK bK ab (aG ab)) (gr (aK bK ab ab))) (aD (aJ (aF rA ab (aB bc (eh (aB ab ab)))))) aX) (au (aZ (aK bK ab (aF kO ab (aO ab))) (aD ed) aX) (aD (aJ (aF CK (aG ab) (aQ ab (aB ab ab))))))))))
def uI:SF:=(ah (bJ (ao (am bS (aC 688 fj (aE 1002 0 (aa 0)) (ac (aa 1) af)) (ae (.str "not")))) (ah (fG [3,2,1] (ac (aC 1002 ij (aa 0) (ac (aa 1) af)) (ac (aa 3) (ac (aa 2) af)))) az) az) (ah (bJ (gq (ao (am bS (aC 688 fj (aE 1002 0 (aa 0)) (ac (aa 2) af)) (ae (.str "ite")))) (ao (am (aP fun a b=>a==b) (aq (aC 688 gA (aE 1002 0 (aa 0)) (ac (aa 2) af)) (ae (.int 0))) (aa 1)))) (ah (bQ 2 (aq (aC 688 gA (aE 1002 0 (aa 0)) (ac (aa 2) af)) (ae (.int 1)))) az) az) (ah (bJ (gq (ao (am bS (aC 688 fj (aE 1002 0 (aa 0)) (ac (aa 3) af)) (ae (.str "ite")))) (ao (am (aP fun a b=>a==b) (aq (aC 688 gA (aE 1002 0 (aa 0)) (ac (aa 3) af)) (ae (.int 0))) (aa 1)))) (ah (bQ 3 (aq (aC 688 gA (aE 1002 0 (aa 0)) (ac (aa 3) af)) (ae (.int 2)))) az) az) (ah (bJ (jz (ao (am (aP fun a b=>a==b) (aa 1) (aE 1002 1 (aa 0)))) (ao (am (aP fun a b=>a==b) (aa 2) (aa 3)))) (ah (aW (aa 2)) az) az) (ah (bJ (ao (am (aP fun a b=>a==b) (aa 1) (aE 1002 2 (aa 0)))) (ah (aW (aa 3)) az) az) (ah (aW (eV (ao (am (aP fun a b=>a==b) (aC 688 eI (aE 1002 0 (aa 0)) (ac (aa 2) af)) (ae (.int 0)))) (aC 1002 nJ (aa 0) (ac (aa 1) (ac (aa 2) (ac (aa 3) af)))) (aC 688 pS (aE 1002 0 (aa 0)) (ac (aa 1) (ac (aa 2) (ac (aa 3) af)))))) az))))))
def uJ:PF:=bY 4 0 uI
theorem FL:bt 6 903 uJ:=da J7 4 xx (au (aZ (aK dq (aF oP (aG ab) (aO ab)) bc) (aD (gF (ns:=["c","a","b"]) (by decide) (.cons rfl rfl (.cons rfl rfl (.cons rfl rfl .nil))) (aQ (aF kO ab (aO ab)) (aB ab ab)) rfl (gI rfl))) aX) (au (aZ (fN (aK dq (aF oP (aG ab) (aO ab)) bc) (fE (aK bK (aA (aF lh (aG ab) (aO ab)) ai) ab))) (aD (bH (aA (aF lh (aG ab) (aO ab)) ai))) aX) (au (aZ (fN (aK dq (aF oP (aG ab) (aO ab)) bc) (fE (aK bK (aA (aF lh (aG ab) (aO ab)) ai) ab))) (aD (bH (aA (aF lh (aG ab) (aO ab)) ai))) aX) (au (aZ (hE (aK bK ab (aG ab)) (gr (aK bK ab ab))) (aD (aJ ab)) aX) (au (aZ (aK bK ab (aG ab)) (aD (aJ ab)) aX) (aD (aJ (eL (aK bK (aF lk (aG ab) (aO ab)) (bm gP)) (aF x8 ab (aQ ab (aB ab ab))) (aF CK (aG ab) (aQ ab (aB ab ab)))))))))))
noncomputable abbrev uK:Nm:=[("self",.local),("a",.local),("b",.local),("deep",.local),("row",.local),("truth",.local),("terms",.local),("relation",.local),("bound",.local),("value",.local),("whole_row",.globalImplicit),("row_of_form",.globalImplicit),("difference_of",.globalImplicit),("row_truth",.globalImplicit),("is_hopeless",.globalImplicit),("ONE_rewrite",.globalImplicit),("MINUS_ONE_rewrite",.globalImplicit),("len",.globalImplicit),("div",.globalImplicit),("atom_of_row",.globalImplicit)]
theorem vE:∀ P,(KF P).lookup 973=some (Kc P):=fun P=>by kernel_rfl
def i7:SF:=(ah (bQ 4 (aI jo (ac (aI hV (ac (aI gk (ac (aE 1002 0 (aa 0)) (ac (aa 1) (ac (aa 2) af)))) (ac (ae (.str "=")) af))) af))) (ah (bQ 5 (aI iu (ac (aa 4) af))) (ah (bJ (ao (jn false (aa 5))) (ah (aW (aC 688 ki (aE 1002 0 (aa 0)) (ac (aa 5) af))) az) az) (ah (bJ (ao (aI gv (ac (aE 1002 0 (aa 0)) (ac (aa 4) af)))) (ah (aW (aE 1002 2 (aa 0))) az) az) (ah (gC [6,7,8] (aa 4)) (ah (bJ (gq (ao (am (aP fun a b=>a==b) (aq (aa 8) (ae (.int 0))) (ae (.int 0)))) (ao (am iF (fV (cF (aa 6)) 2 [] (eG [0,1]) dn (cq (aa 1))) (bp (ac (dT (ac (ae (.tuple [.int 1,.int 1])) (ac (ae (.tuple [.int (-1),.int 1])) af))) (ac (dT (ac (ae (.tuple [.int (-1),.int 1])) (ac (ae (.tuple [.int 1,.int 1])) af))) af)))))) (ah (aW (aC 688 sM (aE 1002 0 (aa 0)) (ac (aq (aq (aa 6) (ae (.int 0))) (ae (.int 0))) (ac (aq (aq (aa 6) (ae (.int 1))) (ae (.int 0))) af)))) az) az) (ah (bJ (ao (am (aP fun a b=>a==b) (dw (ac (aa 6) af)) (ae (.int 1)))) (ah (bQ 4 (bp (ac (bp (ac (bp (ac (aq (aq (aa 6) (ae (.int 0))) (ae (.int 0))) (ac (ae (.tuple [.int 1,.int 1])) af))) af)) (ac (aa 7) (ac (aI ro (ac (aa 8) (ac (aq (aq (aa 6) (ae (.int 0))) (ae (.int 1))) af))) af))))) (ah (bQ 9 (aC 688 fY (aE 1002 0 (aa 0)) (ac (aq (aa 4) (ae (.int 2))) (ac (aC 688 eI (aE 1002 0 (aa 0)) (ac (aa 1) af)) af)))) (ah (bJ (ao (am bS (aC 688 fj (aE 1002 0 (aa 0)) (ac (aq (aq (aa 6) (ae (.int 0))) (ae (.int 0))) af)) (ae (.str "ite")))) (ah fq az) az) az))) az) (ah (aW (aI jg (ac (aE 1002 0 (aa 0)) (ac (aa 4) (ac (aC 688 eI (aE 1002 0 (aa 0)) (ac (aa 1) af)) af))))) az))))))))
theorem uM:fm 6 uK ((["self","a","b","deep"]:List Str)++(["row","truth","terms","relation","bound","value"]:List Str)) (jf (j8 47 2)) i7:=by
 show fm _ _ _ (_::_) _
 exact(au (bH (aR qj (aO (aR rY (aB (aR pU (aQ (aG ab) (aB ab ab))) bc))))) (au (bH (aR qk (aO ab))) (au (aZ (nU ab) (aD (aJ (aF ua (aG ab) (aO ab)))) aX) (au (aZ (dY (aR rZ (aB (aG ab) ab))) (aD (aJ (aG ab))) aX) (au (jC ab (nc (nc (nc nn)))) (au (aZ (fN (aK bK (aA ab ai) ai) (fE (aK tF (ie (⟨rfl,by decide,by decide,rfl,by decide,by decide,rfl,by decide⟩:eW _ _ _ [(".0",.local),("term",.local),("own",.local)] ["term","own"] [] []) (cW ab) (mY (nc (nc nn))) eU (fun _ _ _=>ef rfl rfl) (dk ab)) (bD (aB (eh (aB (bm hU) (bm gV))) (eh (aB (bm gV) (bm hU)))))))) (aD (aJ (aF CJ (aG ab) (aB (aA (aA ab ai) ai) (aA (aA ab ai) ai))))) aX) (au (aZ (aK bK (dO (aO ab)) ai) (au (bH (bD (aQ (bD (aO (bD (aB (aA (aA ab ai) ai) (bm hU))))) (aB ab (aR GY (aB ab (aA (aA ab ai) ai))))))) (au (bH (aF pT (aG ab) (aB (aA ab ai) (aF lk (aG ab) (aO ab))))) (aD (aZ (aK dq (aF oP (aG ab) (aO (aA (aA ab ai) ai))) bc) (aD ed) aX)))) aX) (aD (aJ (aR r8 (aQ (aG ab) (aB ab (aF lk (aG ab) (aO ab))))))))))))))
theorem D5:oz 978 (nO (j8 47 2) "ArithRewriter.equal_numbers" 3 [] (.ref 973) (.str "minismt.rewrite" 1265) (.ref 977) .none 0) (jf (j8 47 2)):=.of (fun P=>⟨by kernel_rfl,by kernel_rfl⟩) rfl
def kF:PF:=tz 4 6 i7
theorem uN:bt 7 978 kF:=vh (ns:=(["self","a","b","deep"]:List Str)) (more:=(["row","truth","terms","relation","bound","value"]:List Str)) D5 rfl (by decide) (by decide) (by decide) (fun P s X us h=>by obtain⟨x0,x1,x2,x3,rfl⟩:=uA h;exact RB rfl (X _ _ (vE P)) rfl rfl rfl) (fun P s X us h=>by obtain⟨x0,x1,x2,rfl⟩:=ww (Td h);exact⟨1493,RB rfl (X _ _ (vE P)) rfl rfl rfl⟩) uM
noncomputable abbrev qJ:Nm:=[("self",.local),("a",.local),("b",.local),("deep",.local),("__class__",.free),("super",.globalImplicit)]
noncomputable abbrev lx:Vp:=nO (j8 47 1) "ArithRewriter.equal_others" 3 [("__class__",952)] (.ref 964) (.str "minismt.rewrite" 1265) (.ref 971) (.ref 965) 0
theorem KT:∀ P,(KF P).lookup 972=some (Kb P):=fun P=>by kernel_rfl
theorem KU:∀ P,WR (KF P) (lx).code (lx).qualname=true:=fun P=>by kernel_rfl
theorem KV:∀ P,(KF P).lookup 964=some (Ka P):=fun P=>by kernel_rfl
def jS:SF:=(ah (bJ (ao (aC 688 d6 (aE 1002 0 (aa 0)) (ac (aC 688 eI (aE 1002 0 (aa 0)) (ac (aa 1) af)) af))) (ah (aW (aC 1002 kF (aa 0) (ac (aa 1) (ac (aa 2) (ac (aa 3) af))))) az) az) (ah fq az))
theorem wI:fm 7 qJ ((["self","a","b","deep"]:List Str)++([]:List Str)) (jf (j8 47 1)) jS:=by
 show fm _ _ _ (_::_) _
 exact(au (aZ (dY (aF kE (aG ab) (aO (aF lk (aG ab) (aO ab))))) (aD (aJ (aF uN ab (aQ ab (aB ab ab))))) aX) (aD ed))
def md:PF:=bY 4 0 jS
theorem wJ:bt 8 972 md:=KJ (κ:=qJ) (ns:=(["self","a","b","deep"]:List Str)) (more:=([]:List Str)) (body:=(jf (j8 47 1))) (fd:=lx) (fun P=>⟨_,_,_,KT P⟩) (fun P=>by kernel_rfl) KU rfl rfl rfl rfl rfl rfl rfl (by decide) (by decide) (by decide) (by decide) (by decide) (by decide) (fun P s X us h=>by obtain⟨x0,x1,x2,x3,rfl⟩:=uA h;exact RB rfl (X _ _ (KV P)) rfl rfl rfl) wI
noncomputable abbrev Ia:Nm:=[("self",.local),("a",.local),("b",.local),("deep",.local),("value",.local),("other",.local),("BOOL",.globalImplicit)]
theorem D6:∀ P,(KF P).lookup 904=some (J8 P):=fun P=>by kernel_rfl
def oh:SF:=(ah (bJ (ao (am (aP fun a b=>a==b) (aa 1) (aa 2))) (ah (aW (aE 1002 1 (aa 0))) az) az) (ah (bJ (ao (am (aP fun a b=>a==b) (aC 688 eI (aE 1002 0 (aa 0)) (ac (aa 1) af)) (ae (.int 0)))) (ah fq az) az) (ah (bJ (gq (ao (aC 688 fX (aE 1002 0 (aa 0)) (ac (aa 1) af))) (ao (aC 688 fX (aE 1002 0 (aa 0)) (ac (aa 2) af)))) (ah (aW (aE 1002 2 (aa 0))) az) az) (ah (dM (cF (bp (ac (bp (ac (aa 1) (ac (aa 2) af))) (ac (bp (ac (aa 2) (ac (aa 1) af))) af)))) (eG [4,5]) (ah (bJ (gq (ao (aC 688 fX (aE 1002 0 (aa 0)) (ac (aa 4) af))) (ao (am bS (aC 688 fj (aE 1002 0 (aa 0)) (ac (aa 5) af)) (ae (.str "ite"))))) (ah fq az) az) az)) (ah (aW (aC 1002 md (aa 0) (ac (aa 1) (ac (aa 2) (ac (aa 3) af))))) az)))))
theorem Ib:fm 8 Ia ((["self","a","b","deep"]:List Str)++(["value","other"]:List Str)) (jf (j8 46 11)) oh:=by
 show fm _ _ _ (_::_) _
 exact(au (aZ (aK bK ab ab) (aD (aJ (aG ab))) aX) (au (aZ (aK bK (aF lk (aG ab) (aO ab)) (bm gP)) (aD ed) aX) (au (aZ (fN (dY (aF lm (aG ab) (aO ab))) (fE (dY (aF lm (aG ab) (aO ab))))) (aD (aJ (aG ab))) aX) (au (eP (cW (bD (aB (bD (aB ab ab)) (bD (aB ab ab))))) (iU (nc (nc nn))) (aD (aZ (fN (dY (aF lm (aG ab) (aO ab))) (fE (aK dq (aF oP (aG ab) (aO ab)) bc))) (aD ed) aX))) (aD (aJ (aF wJ ab (aQ ab (aB ab ab)))))))))
theorem KW:oz 911 (nO (j8 46 11) "BoolRewriter.equal" 3 [] (.ref 904) (.str "minismt.rewrite" 1265) (.ref 910) .none 0) (jf (j8 46 11)):=.of (fun P=>⟨by kernel_rfl,by kernel_rfl⟩) rfl
def mf:PF:=tz 4 2 oh
theorem Bm:bt 9 911 mf:=vh (ns:=(["self","a","b","deep"]:List Str)) (more:=(["value","other"]:List Str)) KW rfl (by decide) (by decide) (by decide) (fun P s X us h=>by obtain⟨x0,x1,x2,x3,rfl⟩:=uA h;exact RB rfl (X _ _ (D6 P)) rfl rfl rfl) (fun P s X us h=>by obtain⟨x0,x1,x2,rfl⟩:=ww (Td h);exact⟨1393,RB rfl (X _ _ (D6 P)) rfl rfl rfl⟩) Ib
noncomputable abbrev wK:Nm:=[("self",.local),("value",.local),("b",.local),("deep",.local),("c",.local),("first",.local),("second",.local),("DEEPEST",.globalImplicit)]
theorem D7:∀ P,(KF P).lookup 920=some (J9 P):=fun P=>by kernel_rfl
def jT:SF:=(ah (gC [4,5,6] (aC 688 gA (aE 1002 0 (aa 0)) (ac (aa 2) af))) (ah (bJ (jz (ao (am (aP fun a b=>decide (b≤a)) (aa 3) (ae (.int 50)))) (gq (ky (ao (aC 688 fX (aE 1002 0 (aa 0)) (ac (aa 5) af)))) (ky (ao (aC 688 fX (aE 1002 0 (aa 0)) (ac (aa 6) af)))))) (ah (aW (aC 688 sM (aE 1002 0 (aa 0)) (ac (aa 1) (ac (aa 2) af)))) az) az) (ah (aW (aC 1002 uJ (aa 0) (ac (aa 4) (ac (aC 1002 mf (aa 0) (ac (aa 1) (ac (aa 5) (ac (am iq (aa 3) (ae (.int 1))) af)))) (ac (aC 1002 mf (aa 0) (ac (aa 1) (ac (aa 6) (ac (am iq (aa 3) (ae (.int 1))) af)))) af))))) az)))
theorem wM:fm 9 wK ((["self","value","b","deep"]:List Str)++(["c","first","second"]:List Str)) (jf (j8 46 13)) jT:=by
 show fm _ _ _ (_::_) _
 exact(au (jC (aF lh (aG ab) (aO ab)) (nc (nc (nc nn)))) (au (aZ (hE (aK Kz ab (bm DZ)) (gr (fN (kA (dY (aF lm (aG ab) (aO ab)))) (fE (kA (dY (aF lm (aG ab) (aO ab)))))))) (aD (aJ (aF CJ (aG ab) (aB ab ab)))) aX) (aD (aJ (aF FL ab (aQ ab (aB (aF Bm ab (aQ ab (aB ab (bg jD ab ai)))) (aF Bm ab (aQ ab (aB ab (bg jD ab ai)))))))))))
theorem KX:oz 927 (nO (j8 46 13) "BoolRewriter.equal_chosen" 3 [] (.ref 920) (.str "minismt.rewrite" 1265) (.ref 926) .none 0) (jf (j8 46 13)):=.of (fun P=>⟨by kernel_rfl,by kernel_rfl⟩) rfl
def e9:PF:=tz 4 3 jT
theorem wN:bt 10 927 e9:=vh (ns:=(["self","value","b","deep"]:List Str)) (more:=(["c","first","second"]:List Str)) KX rfl (by decide) (by decide) (by decide) (fun P s X us h=>by obtain⟨x0,x1,x2,x3,rfl⟩:=uA h;exact RB rfl (X _ _ (D7 P)) rfl rfl rfl) (fun P s X us h=>by obtain⟨x0,x1,x2,rfl⟩:=ww (Td h);exact⟨1417,RB rfl (X _ _ (D7 P)) rfl rfl rfl⟩) wM
noncomputable abbrev vF:Nm:=[("self",.local),("a",.local),("b",.local),("deep",.local),("row",.local),("truth",.local),("terms",.local),("relation",.local),("bound",.local),("value",.local),("whole_row",.globalImplicit),("row_of_form",.globalImplicit),("difference_of",.globalImplicit),("row_truth",.globalImplicit),("is_hopeless",.globalImplicit),("ONE_rewrite",.globalImplicit),("MINUS_ONE_rewrite",.globalImplicit),("len",.globalImplicit),("div",.globalImplicit),("atom_of_row",.globalImplicit)]
def js:SF:=(ah (bQ 4 (aI jo (ac (aI hV (ac (aI gk (ac (aE 1002 0 (aa 0)) (ac (aa 1) (ac (aa 2) af)))) (ac (ae (.str "=")) af))) af))) (ah (bQ 5 (aI iu (ac (aa 4) af))) (ah (bJ (ao (jn false (aa 5))) (ah (aW (aC 688 ki (aE 1002 0 (aa 0)) (ac (aa 5) af))) az) az) (ah (bJ (ao (aI gv (ac (aE 1002 0 (aa 0)) (ac (aa 4) af)))) (ah (aW (aE 1002 2 (aa 0))) az) az) (ah (gC [6,7,8] (aa 4)) (ah (bJ (gq (ao (am (aP fun a b=>a==b) (aq (aa 8) (ae (.int 0))) (ae (.int 0)))) (ao (am iF (fV (cF (aa 6)) 2 [] (eG [0,1]) dn (cq (aa 1))) (bp (ac (dT (ac (ae (.tuple [.int 1,.int 1])) (ac (ae (.tuple [.int (-1),.int 1])) af))) (ac (dT (ac (ae (.tuple [.int (-1),.int 1])) (ac (ae (.tuple [.int 1,.int 1])) af))) af)))))) (ah (aW (aC 688 sM (aE 1002 0 (aa 0)) (ac (aq (aq (aa 6) (ae (.int 0))) (ae (.int 0))) (ac (aq (aq (aa 6) (ae (.int 1))) (ae (.int 0))) af)))) az) az) (ah (bJ (ao (am (aP fun a b=>a==b) (dw (ac (aa 6) af)) (ae (.int 1)))) (ah (bQ 4 (bp (ac (bp (ac (bp (ac (aq (aq (aa 6) (ae (.int 0))) (ae (.int 0))) (ac (ae (.tuple [.int 1,.int 1])) af))) af)) (ac (aa 7) (ac (aI ro (ac (aa 8) (ac (aq (aq (aa 6) (ae (.int 0))) (ae (.int 1))) af))) af))))) (ah (bQ 9 (aC 688 fY (aE 1002 0 (aa 0)) (ac (aq (aa 4) (ae (.int 2))) (ac (aC 688 eI (aE 1002 0 (aa 0)) (ac (aa 1) af)) af)))) (ah (bJ (ao (am bS (aC 688 fj (aE 1002 0 (aa 0)) (ac (aq (aq (aa 6) (ae (.int 0))) (ae (.int 0))) af)) (ae (.str "ite")))) (ah (aW (aC 1002 e9 (aa 0) (ac (aa 9) (ac (aq (aq (aa 6) (ae (.int 0))) (ae (.int 0))) (ac (aa 3) af))))) az) az) az))) az) (ah (aW (aI jg (ac (aE 1002 0 (aa 0)) (ac (aa 4) (ac (aC 688 eI (aE 1002 0 (aa 0)) (ac (aa 1) af)) af))))) az))))))))
theorem vG:fm 10 vF ((["self","a","b","deep"]:List Str)++(["row","truth","terms","relation","bound","value"]:List Str)) (jf (j8 47 2)) js:=by
 show fm _ _ _ (_::_) _
 exact(au (bH (aR qj (aO (aR rY (aB (aR pU (aQ (aG ab) (aB ab ab))) bc))))) (au (bH (aR qk (aO ab))) (au (aZ (nU ab) (aD (aJ (aF ua (aG ab) (aO ab)))) aX) (au (aZ (dY (aR rZ (aB (aG ab) ab))) (aD (aJ (aG ab))) aX) (au (jC ab (nc (nc (nc nn)))) (au (aZ (fN (aK bK (aA ab ai) ai) (fE (aK tF (ie (⟨rfl,by decide,by decide,rfl,by decide,by decide,rfl,by decide⟩:eW _ _ _ [(".0",.local),("term",.local),("own",.local)] ["term","own"] [] []) (cW ab) (mY (nc (nc nn))) eU (fun _ _ _=>ef rfl rfl) (dk ab)) (bD (aB (eh (aB (bm hU) (bm gV))) (eh (aB (bm gV) (bm hU)))))))) (aD (aJ (aF CJ (aG ab) (aB (aA (aA ab ai) ai) (aA (aA ab ai) ai))))) aX) (au (aZ (aK bK (dO (aO ab)) ai) (au (bH (bD (aQ (bD (aO (bD (aB (aA (aA ab ai) ai) (bm hU))))) (aB ab (aR GY (aB ab (aA (aA ab ai) ai))))))) (au (bH (aF pT (aG ab) (aB (aA ab ai) (aF lk (aG ab) (aO ab))))) (aD (aZ (aK dq (aF oP (aG ab) (aO (aA (aA ab ai) ai))) bc) (aD (aJ (aF wN ab (aQ ab (aB (aA (aA ab ai) ai) ab))))) aX)))) aX) (aD (aJ (aR r8 (aQ (aG ab) (aB ab (aF lk (aG ab) (aO ab))))))))))))))
def en:PF:=tz 4 6 js
theorem pV:bt 11 978 en:=vh (ns:=(["self","a","b","deep"]:List Str)) (more:=(["row","truth","terms","relation","bound","value"]:List Str)) D5 rfl (by decide) (by decide) (by decide) (fun P s X us h=>by obtain⟨x0,x1,x2,x3,rfl⟩:=uA h;exact RB rfl (X _ _ (vE P)) rfl rfl rfl) (fun P s X us h=>by obtain⟨x0,x1,x2,rfl⟩:=ww (Td h);exact⟨1493,RB rfl (X _ _ (vE P)) rfl rfl rfl⟩) vG
def rC:SF:=(ah (aW (fg (ac (fV (cF (yi 50 (aa 0))) 1 [] (bZ 0) dn (cq (am gO (fh jZ (ac (fh yR (ac (aa 0) af)) af)) (ae (.int 10103))))) (ac (ae (.int 0)) af)))) az)
def jU:PF:=bY 1 0 rC
theorem CP:bt 1 1009 jU:=da Gm 1 qF (aD (aJ (e7 (aB (ie (⟨rfl,by decide,by decide,rfl,by decide,by decide,rfl,by decide⟩:eW _ _ _ [(".0",.local),("cell",.local),("abs",.globalImplicit),("int",.globalImplicit)] ["cell"] [] []) (cW (DS (n:=50) ab)) eM eU (fun _ _ _=>ef rfl rfl) (dk (bg lc (iY oe (aO (Fd H3 (aO ab)))) ai))) ai))))
def sS:SF:=(ah (Cw [2,3] (aa 0)) (ah (gj (am iq (aa 3) (ae (.int 1))) (aa 0) (ae (.int 1))) (ah (bJ (ao (am (aP fun a b=>decide (a<b)) (aa 3) (dw (ac (aa 2) af)))) (ah (aW (am gO (aq (aa 2) (aa 3)) (aa 1))) az) az) (ah (aW (am gO (am gO (am iq (am iq (am iq (am bR (am bR (ae (.int 5)) (aa 3)) (aa 3)) (am bR (ae (.int 9)) (aa 3))) (am bR (ae (.int 4)) (dw (ac (aa 2) af)))) (ae (.int 6))) (ae (.int 71))) (aa 1))) az))))
def bT:PF:=bY 2 2 sS
theorem gG:bt 1 1016 bT:=da Gn 2 gf (au (DQ ab (nc (nc nn))) (au (j9 (bg jD ab ai) ab ai) (au (aZ (aK qC ab (dO (aO ab))) (aD (aJ (bg lc (aA ab ab) ab))) aX) (aD (aJ (bg lc (bg lc (bg jD (bg jD (bg jD (bg dG (bg dG ai ab) ab) (bg dG ai ab)) (bg dG ai (dO (aO ab)))) ai) ai) ab))))))
def oW:SF:=(ah (bJ (ao (am (aP fun a b=>a==b) (aa 0) (ae (.int 1)))) (ah (aW (bp (ac (aa 1) (ac (ae (.int 1)) af)))) az) az) (ah (aW (eV (ao (am (aP fun a b=>a==b) (am gO (aa 1) (ae (.int 2))) (ae (.int 0)))) (bp (ac (am fu (aa 1) (ae (.int 2))) (ac (ae (.int 1)) af))) (bp (ac (aa 1) (ac (ae (.int 2)) af))))) az))
def cN:PF:=bY 2 0 oW
theorem jG:bt 1 1023 cN:=da Go 2 gf (au (aZ (aK bK ab (bm tJ)) (aD (aJ (bD (aB ab ai)))) aX) (aD (aJ (eL (aK bK (bg lc ab ai) ai) (bD (aB (bg mX ab ai) ai)) (bD (aB ab ai))))))
def oX:SF:=(ah (dN 2 (cF (aa 1)) 1 [0] (bZ 0) dn (cq (am eQ (aI bT (ac (aa 1) (ac (ae (.int 3)) af))) (ae (.int 1))))) (ah (aW (bp (ac (fV (lU (ac (aa 1) (ac (aa 2) af))) 2 [] (eG [0,1]) dn (cq (am iq (aa 0) (aa 1)))) (ac (aa 2) af)))) az))
def jH:PF:=bY 2 1 oX
theorem zb:bt 2 1028 jH:=da Gp 2 gf (au (iD (⟨rfl,by decide,by decide,rfl,by decide,by decide,rfl,by decide⟩:eW _ _ _ [(".0",.local),("number",.local),("_law_dip",.globalImplicit),("feed",.cell)] ["number"] ["feed"] [0]) rfl (by decide) rfl rfl rfl (cW ab) eM eU (fun _ _ _=>ef rfl rfl) (dk (bg ka (aR gG (aB ab ai)) ai))) (aD (aJ (bD (aB (ie (⟨rfl,by decide,by decide,rfl,by decide,by decide,rfl,by decide⟩:eW _ _ _ [(".0",.local),("number",.local),("late",.local)] ["number","late"] [] []) (rk (aB ab ab)) (mY (nc (nc nn))) eU (fun _ _ _=>ef rfl rfl) (dk (bg jD ab ab))) ab)))))
def rD:SF:=(ah (dN 4 (lU (ac (aa 1) (ac (aa 3) af))) 2 [0,2] (eG [0,1]) (ao (am (aP fun a b=>a !=b) (aa 1) (ae (.int 0)))) (cq (aC 688 ir (aa 2) (ac (aI cN (ac (aa 3) (ac (aa 1) af))) (ac (aa 0) af))))) (ah (aW (aC 688 oU (aa 0) (ac (gd (ac (yN (aa 4) (dT (ac (aC 688 fY (aa 0) (ac (aI cN (ac (aa 2) (ac (aq (aa 3) (ae (.int 3))) af))) (ac (aa 2) af))) af))) af)) af))) az))
def gD:PF:=bY 4 1 rD
theorem vH:bt 5 1033 gD:=da Gq 4 xx (au (iD (⟨rfl,by decide,by decide,rfl,by decide,by decide,rfl,by decide⟩:eW _ _ _ [(".0",.local),("one",.local),("often",.local),("_law_halves",.globalImplicit),("bank",.cell),("sort",.cell)] ["one","often"] ["bank","sort"] [0,2]) rfl (by decide) rfl rfl rfl (rk (aB ab ab)) (mY (nc (nc nn))) (pL (aK ig ab ai)) (fun _ _ _=>ef rfl rfl) (dk (aF ub ab (aB (aR jG (aB ab ab)) ab)))) (aD (aJ (aF D2 ab (aO (ii (aO (Fp ab (eh (aO (aF pT ab (aB (aR jG (aB ab (aA ab ai))) ab))))))))))))
def ql:SF:=(ah (aW (bp (ac (am bR (aq (aa 0) (ae (.int 0))) (aq (aa 1) (ae (.int 0)))) (ac (am bR (aq (aa 0) (ae (.int 1))) (aq (aa 1) (ae (.int 1)))) af)))) az)
def eX:PF:=bY 2 0 ql
theorem ue:bt 1 1040 eX:=da Gr 2 gf (aD (aJ (bD (aB (bg dG (aA ab ai) (aA ab ai)) (bg dG (aA ab ai) (aA ab ai))))))
def rE:SF:=(ah (aW (bp (ac (am iq (am bR (aq (aa 0) (ae (.int 0))) (aq (aa 1) (ae (.int 1)))) (am bR (aq (aa 1) (ae (.int 0))) (aq (aa 0) (ae (.int 1))))) (ac (am bR (aq (aa 0) (ae (.int 1))) (aq (aa 1) (ae (.int 1)))) af)))) az)
def fz:PF:=bY 2 0 rE
theorem vI:bt 1 1047 fz:=da Gs 2 gf (aD (aJ (bD (aB (bg jD (bg dG (aA ab ai) (aA ab ai)) (bg dG (aA ab ai) (aA ab ai))) (bg dG (aA ab ai) (aA ab ai))))))
noncomputable abbrev AW:Nm:=[("bank",.cell),("term",.local),("world",.cell),("op",.local),("kids",.local),("some",.local),("found",.local),("late",.local),("_law_worth",.globalImplicit),("isinstance",.globalImplicit),("bool",.globalImplicit),("_law_times",.globalImplicit),("_law_plus",.globalImplicit)]
def gH(W:PF):SF:=(ah (fG [4,3] (ac (aC 688 fj (aa 0) (ac (aa 1) af)) (ac (aC 688 gA (aa 0) (ac (aa 1) af)) af))) (ah (bJ (ao (am iF (aa 3) (bp (ac (ae (.str "true")) (ac (ae (.str "false")) af))))) (ah (aW (am bS (aa 3) (ae (.str "true")))) az) az) (ah (bJ (ao (am bS (aa 3) (ae (.str "num")))) (ah (aW (aC 688 kc (aa 0) (ac (aa 1) af))) az) az) (ah (bJ (ao (am bS (aa 3) (ae (.str "app")))) (ah (aW (aq (aa 2) (aa 1))) az) az) (ah (bJ (ao (am bS (aa 3) (ae (.str "ite")))) (ah (aW (aI W (ac (aa 0) (ac (eV (ao (aI W (ac (aa 0) (ac (aq (aa 4) (ae (.int 0))) (ac (aa 2) af))))) (aq (aa 4) (ae (.int 1))) (aq (aa 4) (ae (.int 2)))) (ac (aa 2) af))))) az) az) (ah (dN 5 (cF (aa 4)) 1 [0,2] (bZ 0) dn (cq (aI W (ac (aa 1) (ac (aa 0) (ac (aa 2) af)))))) (ah (bJ (ao (am bS (aa 3) (ae (.str "not")))) (ah (aW (sn (aq (aa 5) (ae (.int 0))))) az) az) (ah (bJ (ao (am iF (aa 3) (bp (ac (ae (.str "and")) (ac (ae (.str "or")) af))))) (ah (aW (eV (ao (am bS (aa 3) (ae (.str "and")))) (am lg (ae (.bool false)) (aa 5)) (am iF (ae (.bool true)) (aa 5)))) az) az) (ah (bJ (ao (am bS (aa 3) (ae (.str "=")))) (ah (aW (eV (qE (aq (aa 5) (ae (.int 0)))) (am bS (aq (aa 5) (ae (.int 0))) (aq (aa 5) (ae (.int 1)))) (am (aP fun a b=>a==b) (am bR (aq (aq (aa 5) (ae (.int 0))) (ae (.int 0))) (aq (aq (aa 5) (ae (.int 1))) (ae (.int 1)))) (am bR (aq (aq (aa 5) (ae (.int 1))) (ae (.int 0))) (aq (aq (aa 5) (ae (.int 0))) (ae (.int 1))))))) az) az) (ah (bQ 6 (aq (aa 5) (ae (.int 0)))) (ah (dM (cF (vw 1 (aa 5))) (bZ 7) (ah (bQ 6 (eV (ao (am bS (aa 3) (ae (.str "*")))) (aI eX (ac (aa 6) (ac (aa 7) af))) (aI fz (ac (aa 6) (ac (aa 7) af))))) az)) (ah (aW (aa 6)) az))))))))))))
theorem AX(hW:bt (n+1) 1052 W):fm (n+1) AW ((["bank","term","world"]:List Str)++(["op","kids","some","found","late"]:List Str)) (jf (w9 56)) (gH W):=by
 show fm _ _ _ (_::_) _
 exact(au (gF (ns:=["op","kids"]) (by decide) (.cons rfl rfl (.cons rfl rfl .nil)) (aB (aF (h₀:=Sx ..) oP ab (aO ab)) (aF (h₀:=Sx ..) lh ab (aO ab))) rfl (gI rfl)) (au (aZ (aK tF ab (bD (aB bc bc))) (aD (aJ (cU dq ab bc))) aX) (au (aZ (aK dq ab bc) (aD (aJ (aF (h₀:=Sx ..) y5 ab (aO ab)))) aX) (au (aZ (aK dq ab bc) (aD (aJ (aA ab ab))) aX) (au (aZ (aK dq ab bc) (aD (aJ (aR (h₀:=QZ _) hW (aQ ab (aB (eL (dY (aR (h₀:=QZ _) hW (aQ ab (aB (aA ab ai) ab)))) (aA ab ai) (aA ab ai)) ab))))) aX) (au (iD (⟨rfl,by decide,by decide,rfl,by decide,by decide,rfl,by decide⟩:eW _ _ _ [(".0",.local),("kid",.local),("_law_worth",.globalImplicit),("bank",.cell),("world",.cell)] ["kid"] ["bank","world"] [0,2]) rfl (by decide) rfl rfl rfl (cW ab) eM eU (fun _ _ _=>ef rfl rfl) (dk (aR (h₀:=QZ _) hW (aQ ab (aB ab ab))))) (au (aZ (aK dq ab bc) (aD (aJ (uo (aA ab ai)))) aX) (au (aZ (aK tF ab (bD (aB bc bc))) (aD (aJ (eL (aK dq ab bc) (cU yO fD ab) (cU tF fD ab)))) aX) (au (aZ (aK dq ab bc) (aD (aJ (eL (AM yV xZ KL (aA ab ai)) (cU dq (aA ab ai) (aA ab ai)) (cU bK (bg dG (aA (aA ab ai) ai) (aA (aA ab ai) ai)) (bg dG (aA (aA ab ai) ai) (aA (aA ab ai) ai)))))) aX) (au (bH (aA ab ai)) (au (eP (cW (DT (n:=1) ab)) iN (aD (bH (eL (aK dq ab bc) (aR (h₀:=Sx ..) ue (aB ab ab)) (aR (h₀:=Sx ..) vI (aB ab ab)))))) (aD (aJ ab)))))))))))))
noncomputable def b8:Nat→PF
 | 0=>fun _ _=>none
 | n+1=>bY 3 5 (gH (b8 n))
theorem Bn:oz 1052 (PD 56 "_law_worth" "law_sj0104_01" 1532 1051) (jf (w9 56)):=.of (fun P=>⟨by kernel_rfl,by kernel_rfl⟩) rfl
theorem qm:∀ n,bt (n+1) 1052 (b8 n)
 | 0=>⟨Bn.keep,fun _ _ _ _ _ _ _ h=>by cases h⟩
 | n+1=>by
  have h:=GR (ns:=(["bank","term","world"]:List Str)) (more:=(["op","kids","some","found","late"]:List Str)) Bn rfl (by decide) (by decide) (by decide) oO (AX (qm n))
  rw[Tq];exact h
def oY:SF:=(ah (bQ 4 (fg af)) (ah (dM (kb (ac (ae (.int 30)) af)) (bZ 5) (ah (dN 6 (cF (bp (ac (am eQ (am gO (aa 5) (ae (.int 5))) (ae (.int 2))) (ac (am eQ (am gO (am fu (aa 5) (ae (.int 5))) (ae (.int 3))) (ae (.int 1))) af)))) 1 [2] (bZ 0) dn (cq (aI cN (ac (aa 1) (ac (aa 0) af))))) (ah (cM (d8 "list" cK (aa 4) (ac (mZ (gU (aq (aa 1) (ae (.int 0))) (aq (aa 6) (ae (.int 0))) (gU (aq (aa 1) (ae (.int 1))) (aq (aa 6) (ae (.int 1))) (gU (aa 3) (am (aP fun a b=>a==b) (am fu (aa 5) (ae (.int 15))) (ae (.int 1))) sF)))) af))) az))) (ah (aW (aa 4)) az)))
def ly:PF:=bY 4 3 oY
theorem zj:bt 2 1057 ly:=da Gu 4 xx (au (bH (e7 cV)) (au (eP (ri (aO ai)) iN (au (iD (⟨rfl,by decide,by decide,rfl,by decide,by decide,rfl,by decide⟩:eW _ _ _ [(".0",.local),("number",.local),("_law_halves",.globalImplicit),("sort",.cell)] ["number"] ["sort"] [2]) rfl (by decide) rfl rfl rfl (cW (bD (aB (bg ka (bg lc ab ai) ai) (bg ka (bg lc (bg mX ab ai) ai) ai)))) eM eU (fun _ _ _=>ef rfl rfl) (dk (aR jG (aB ab ab)))) (aD (cL (dW dy QN QO QP ab (aO (vz (pO (aA ab ai) (aA ab ai) (pO (aA ab ai) (aA ab ai) (pO ab (cU bK (bg mX ab ai) ai) yT))) (by simp) (by simp)))))))) (aD (aJ ab))))
def mh:SF:=(ah (dM (cF (aI ly (ac (aa 0) (ac (aa 1) (ac (aa 2) (ac (aa 3) af)))))) (bZ 6) (ah (bQ 7 (aI cN (ac (aa 2) (ac (aq (aa 4) (ae (.int 3))) af)))) (ah (dM (lU (ac (aa 1) (ac (aa 4) af))) (eG [8,9]) (ah (bQ 7 (aI fz (ac (aa 7) (ac (aI eX (ac (aI cN (ac (aa 2) (ac (aa 9) af))) (ac (aI (b8 8) (ac (aa 0) (ac (aa 8) (ac (aa 6) af)))) af))) af)))) az)) (ah (bJ (ao (am mW (aI (b8 8) (ac (aa 0) (ac (aa 5) (ac (aa 6) af)))) (am (aP fun a b=>a==b) (aq (aa 7) (ae (.int 0))) (ae (.int 0))))) (ah (aW (ae (.bool false))) az) az) az)))) (ah (aW (ae (.bool true))) az))
def iJ:PF:=bY 6 4 mh
theorem wO:bt 10 1064 iJ:=da Gv 6 PG (au (eP (cW (aR zj (aQ ab (aQ ab (aB ab ab))))) iN (au (bH (aR jG (aB ab (aA ab ai)))) (au (eP (rk (aB ab ab)) (iU (nc (nc nn))) (aD (bH (aR vI (aB ab (aR ue (aB (aR jG (aB ab ab)) (aR (qm 8) (aQ ab (aB ab ab)))))))))) (aD (aZ (aK yf (aR (qm 8) (aQ ab (aB ab ab))) (cU bK (aA ab ai) ai)) (aD (aJ fD)) aX))))) (aD (aJ fD)))
def nK:SF:=(ah (bJ (gq (ao (am (aP fun a b=>a==b) (aq (aa 0) (ae (.int 0))) (ae (.int 0)))) (ao (am (aP fun a b=>a==b) (aq (aa 0) (ae (.int 1))) (ae (.int 0))))) (ah (aW (eV (ao (am (aP fun a b=>a==b) (aq (aa 0) (ae (.int 3))) (ae (.int 0)))) (ae (.str "always")) (ae (.str "never")))) az) az) (ah (bJ (ao (am (aP fun a b=>a==b) (aa 1) (ae (.int 1)))) (ah (dN 2 (kb (ac (lO lR (ae (.int 6))) (ac (ae (.int 7)) af))) 2 [0] (bZ 0) dn (oH (kb (ac (lO lR (ae (.int 6))) (ac (ae (.int 7)) af))) (bZ 1) dn (cq (am iq (am bR (aa 0) (aq (aa 2) (ae (.int 0)))) (am bR (aa 1) (aq (aa 2) (ae (.int 1)))))))) (ah (bJ (ao (am (aP fun a b=>a !=b) (am gO (aq (aa 0) (ae (.int 3))) (fh tG (ac (fV (cF (aa 2)) 1 [] (bZ 0) (ao (am (aP fun a b=>decide (b<a)) (aa 0) (ae (.int 0)))) (cq (aa 0))) af))) (ae (.int 0)))) (ah (aW (ae (.str "never"))) az) az) az)) az) (ah (aW (ae (.str "at times"))) az)))
def eK:PF:=bY 2 1 nK
theorem nL:bt 1 1069 eK:=da Gw 2 gf (au (aZ (fN (aK bK (aA ab ai) ai) (fE (aK bK (aA ab ai) ai))) (aD (aJ (eL (aK bK (aA ab ai) ai) bc bc))) aX) (au (aZ (aK bK ab (bm tJ)) (au (iD (⟨rfl,by decide,by decide,rfl,by decide,by decide,rfl,by decide⟩:eW _ _ _ [(".0",.local),("a",.local),("b",.local),("range",.globalImplicit),("row",.cell)] ["a","b"] ["row"] [0]) rfl (by decide) rfl rfl rfl (ri (aB (qA sB ai) ai)) eM eU (fun _ _ _=>xl rfl rfl) (sC rfl (ri (aB (qA sB ai) ai)) eM eU (fun _ _ _=>ef rfl rfl) (dk (bg jD (bg dG ab (aA ab ai)) (bg dG ab (aA ab ai)))))) (aD (aZ (aK ig (bg lc (aA ab ai) (iY Fu (aO (ie (⟨rfl,by decide,by decide,rfl,by decide,by decide,rfl,by decide⟩:eW _ _ _ [(".0",.local),("number",.local)] ["number"] [] []) (cW ab) eM (pL (aK lf ab ai)) (fun _ _ _=>ef rfl rfl) (dk ab))))) ai) (aD (aJ bc)) aX))) aX) (aD (aJ bc))))
def nM:SF:=(ah (bQ 3 (dT (ac (aI eK (ac (aa 0) (ac (aa 2) af))) (ac (aI eK (ac (aa 1) (ac (aa 2) af))) af)))) (ah (bJ (ao (am mW (aa 3) (dT (ac (ae (.str "at times")) (ac (ae (.str "at times")) af))))) (ah (aW (am bS (aq (aa 3) (ae (.int 0))) (aq (aa 3) (ae (.int 1))))) az) az) (ah (aW (am bS (fV (cF (bp (ac (ae (.int 0)) (ac (ae (.int 1)) (ac (ae (.int 3)) af))))) 2 [1,0] (bZ 0) dn (oH (cF (bp (ac (ae (.int 0)) (ac (ae (.int 1)) (ac (ae (.int 3)) af))))) (bZ 1) (ao (am (aP fun a b=>a !=b) (am bR (aq (aa 3) (aa 0)) (aq (aa 2) (aa 1))) (am bR (aq (aa 3) (aa 1)) (aq (aa 2) (aa 0))))) (cq (ae (.int 1))))) (dT af))) az)))
def kt:PF:=bY 3 1 nM
theorem x9:bt 2 1074 kt:=da Gx 3 oO (au (bH (eh (aB (aR nL (aB ab ab)) (aR nL (aB ab ab))))) (au (aZ (aK yf ab (eh (aB bc bc))) (aD (aJ (cU dq (aA ab ai) (aA ab ai)))) aX) (aD (aJ (cU dq (ie (⟨rfl,by decide,by decide,rfl,by decide,by decide,rfl,by decide⟩:eW _ _ _ [(".0",.local),("j",.local),("k",.local),("other",.cell),("row",.cell)] ["j","k"] ["other","row"] [1,0]) (cW (bD (aQ ai (aB ai ai)))) eM eU (fun _ _ _=>xl rfl rfl) (sC rfl (cW (bD (aQ ai (aB ai ai)))) eM (pL (aK ig (bg dG (aA ab ab) (aA ab ab)) (bg dG (aA ab ab) (aA ab ab)))) (fun _ _ _=>ef rfl rfl) (dk ai))) (eh cV))))))
def vJ:SF:=(ah (oG [1,2] (ac (aI jU (ac (aa 0) af)) (ac (iZ 688 kj af) af))) (ah (oG [3,4] (ac (aq (dT (ac (ae (.int 1)) (ac (ae (.int 2)) af))) (aI bT (ac (aa 1) (ac (ae (.int 2)) af)))) (ac (aC 688 dB (aa 2) (ac (ae (.str "c")) (ac (ae (.int 0)) af))) af))) (ah (kN 5 (CA "xy") 1 [2,3] (bZ 0) dn (cq (aC 688 dB (aa 1) (ac (aa 0) (ac (aa 2) af))))) (ah (cM (d8 "list" cK (aa 5) (ac (aC 688 pS (aa 2) (ac (aa 4) (ac (aC 688 fY (aa 2) (ac (bp (ac (ae (.int 2)) (ac (ae (.int 1)) af))) (ac (aa 3) af))) (ac (aq (aa 5) (ae (.int 0))) af)))) af))) (ah (bQ 6 (fg (ac (dT (ac (am eQ (aI bT (ac (aa 1) (ac (ae (.int 7)) af))) (ae (.int 3))) (ac (am eQ (aI bT (ac (aa 1) (ac (ae (.int 7)) af))) (ae (.int 3))) (ac (am fu (aI bT (ac (aa 1) (ac (ae (.int 5)) af))) (ae (.int 4))) (ac (am eQ (aI bT (ac (aa 1) (ac (ae (.int 9)) af))) (ae (.int 4))) af))))) af))) (ah (bQ 7 (aI bT (ac (aa 1) (ac (ae (.int 5)) af)))) (ah (bJ (ao (am (aP fun a b=>decide (b<a)) (aa 7) (ae (.int 2)))) (ah (cM (d8 "list" cK (aa 6) (ac (dT (ac (am eQ (aI bT (ac (aa 1) (ac (ae (.int 7)) af))) (ae (.int 3))) (ac (am eQ (aI bT (ac (aa 1) (ac (ae (.int 7)) af))) (ae (.int 3))) (ac (ae (.int 0)) (ac (am eQ (aI bT (ac (aa 1) (ac (ae (.int 9)) af))) (ae (.int 4))) af))))) af))) az) (ah (cM (d8 "list" cK (aa 6) (ac (fV (cF (aq (aa 6) (ae (.int 0)))) 1 [7] (bZ 0) dn (cq (am bR (aq (dT (ac (ae (.int 1)) (ac (lO lR (ae (.int 1))) (ac (ae (.int 2)) af)))) (aa 1)) (aa 0)))) af))) az)) (ah (fG [9,8] (ac (iZ 1002 n6 (ac (aa 2) af)) (ac (fg af) af))) (ah (dM (cF (aa 6)) (bZ 10) (ah (gC [11,12] (aI jH (ac (aa 1) (ac (aa 10) af)))) (ah (fG [14,13] (ac (aI gD (ac (aa 2) (ac (aa 5) (ac (aa 3) (ac (aa 11) af))))) (ac (aI gD (ac (aa 2) (ac (aa 5) (ac (aa 3) (ac (aa 12) af))))) af))) (ah (bQ 15 (aC 1002 en (aa 8) (ac (aa 13) (ac (aa 14) af)))) (ah (bJ (jz (ao (am (aP fun a b=>a !=b) (aC 688 eI (aa 2) (ac (aa 15) af)) (ae (.int 0)))) (ao (am (aP fun a b=>a !=b) (aC 1002 en (aa 8) (ac (aa 14) (ac (aa 13) af))) (aa 15)))) (ah (aW (ae (.bool false))) az) az) (ah (bJ (ky (ao (aI iJ (ac (aa 2) (ac (aa 5) (ac (aa 3) (ac (aa 4) (ac (aa 10) (ac (aa 15) af))))))))) (ah (aW (ae (.bool false))) az) az) (ah (cM (d8 "list" cK (aa 9) (ac (aa 15) af))) az))))))) (ah (bJ (gq (ao (am (aP fun a b=>decide (a<b)) (aa 7) (ae (.int 3)))) (ao (am (aP fun a b=>a !=b) (aq (aa 9) (ae (.int 0))) (aq (aa 9) (ae (.int 1)))))) (ah (aW (ae (.bool false))) az) az) (ah (bJ (jz (ao (am (aP fun a b=>a !=b) (aq (aq (aa 6) (ae (.int 0))) (ae (.int 2))) (ae (.int 0)))) (ao (am (aP fun a b=>a !=b) (aq (aq (aa 6) (ae (.int 1))) (ae (.int 2))) (ae (.int 0))))) (ah (aW (ae (.bool true))) az) az) (ah (dM (lU (ac (aa 6) (ac (aa 9) af))) (eG [10,15]) (ah (bQ 16 (aI eK (ac (aa 10) (ac (aa 3) af)))) (ah (bJ (ao (am mW (bp (ac (am (aP fun a b=>a==b) (aa 15) (aC 688 jF (aa 2) af)) (ac (am (aP fun a b=>a==b) (aa 15) (aC 688 kg (aa 2) af)) af))) (bp (ac (am bS (aa 16) (ae (.str "never"))) (ac (am bS (aa 16) (ae (.str "always"))) af))))) (ah (aW (ae (.bool false))) az) az) az))) (ah (aW (am bS (am (aP fun a b=>a==b) (aq (aa 9) (ae (.int 0))) (aq (aa 9) (ae (.int 1)))) (aI kt (ac (aq (aa 6) (ae (.int 0))) (ac (aq (aa 6) (ae (.int 1))) (ac (aa 3) af)))))) az)))))))))))))
def yj:PF:=bY 1 16 vJ
theorem MT:bt 12 1079 yj:=da Gy 1 qF (au (uw (by decide) (nc (nc nn)) (aB (aR CP (aO ab)) (pR AV cV)) rfl (gI rfl)) (au (uw (by decide) (nc (nc nn)) (aB (aA (eh (aB (bm tJ) (bm D0))) (aR gG (aB ab ai))) (aF rW ab (aB bc (bm gP)))) rfl (gI rfl)) (au (xV (⟨rfl,by decide,by decide,rfl,by decide,by decide,rfl,by decide⟩:eW _ _ _ [(".0",.local),("name",.local),("bank",.cell),("sort",.cell)] ["name"] ["bank","sort"] [2,3]) rfl (by decide) rfl rfl rfl Fx eM eU (fun _ _ _=>ef rfl rfl) (dk (aF rW ab (aB ab ab)))) (au (cL (dW dy QN QO QP ab (aO (aF CK ab (aQ ab (aB (aF pT ab (aB (bD (aB ai ai)) ab)) (aA ab ai))))))) (au (bH (e7 (aO (eh (aQ (bg ka (aR gG (aB ab ai)) ai) (aQ (bg ka (aR gG (aB ab ai)) ai) (aB (bg mX (aR gG (aB ab ai)) ai) (bg ka (aR gG (aB ab ai)) ai)))))))) (au (bH (aR gG (aB ab ai))) (au (aZ (aK lf ab ai) (aD (cL (dW dy QN QO QP ab (aO (eh (aQ (bg ka (aR gG (aB ab ai)) ai) (aQ (bg ka (aR gG (aB ab ai)) ai) (aB ai (bg ka (aR gG (aB ab ai)) ai))))))))) (aD (cL (dW dy QN QO QP ab (aO (ie (⟨rfl,by decide,by decide,rfl,by decide,by decide,rfl,by decide⟩:eW _ _ _ [(".0",.local),("number",.local),("way",.cell)] ["number"] ["way"] [7]) (cW (aA ab ai)) eM eU (fun _ _ _=>ef rfl rfl) (dk (bg dG (aA (eh (aQ ai (aB (qA sB ai) ai))) ab) ab)))))))) (au (gF (ns:=["rewriter","found"]) (by decide) (.cons rfl rfl (.cons rfl rfl .nil)) (aB (pR CO (aO ab)) (e7 cV)) rfl (gI rfl)) (au (eP (cW ab) iN (au (jC (aR zb (aB ab ab)) (nc (nc nn))) (au (gF (ns:=["one","other"]) (by decide) (.cons rfl rfl (.cons rfl rfl .nil)) (aB (aR vH (aQ ab (aQ ab (aB ab ab)))) (aR vH (aQ ab (aQ ab (aB ab ab))))) rfl (gI rfl)) (au (bH (aF pV ab (aB ab ab))) (au (aZ (hE (aK ig (aF lk ab (aO ab)) (bm gP)) (gr (aK ig (aF pV ab (aB ab ab)) ab))) (aD (aJ fD)) aX) (au (aZ (kA (dY (aR wO (aQ ab (aQ ab (aQ ab (aQ ab (aB ab ab)))))))) (aD (aJ fD)) aX) (aD (cL (dW dy QN QO QP ab (aO ab)))))))))) (au (aZ (fN (aK qC ab ai) (fE (aK ig (aA ab ai) (aA ab ai)))) (aD (aJ fD)) aX) (au (aZ (hE (aK ig (aA (aA ab ai) ai) ai) (gr (aK ig (aA (aA ab ai) ai) ai))) (aD (aJ fD)) aX) (au (eP (rk (aB ab ab)) (iU (nc (nc nn))) (au (bH (aR nL (aB ab ab))) (aD (aZ (aK yf (bD (aB (cU bK ab (aF sL ab cV)) (cU bK ab (aF t8 ab cV)))) (bD (aB (cU dq ab bc) (cU dq ab bc)))) (aD (aJ fD)) aX)))) (aD (aJ (cU dq (cU bK (aA ab ai) (aA ab ai)) (aR x9 (aQ (aA ab ai) (aB (aA ab ai) ab))))))))))))))))))
theorem MU:∀ P,nsIn (KF P) Q9 "law"=some (some (.ref 1079)):=fun P=>by kernel_rfl
theorem PI:Rm callerA 12:=⟨rfl,by decide +kernel,by decide +kernel,[],rfl⟩
theorem AY:∀ {vs:List QM} {ns:List Int} {as:List Addr},ReadsAllW R cl h vs (ns.map .int) as→Rf h vs (ns.map .int) []:=by
 intro vs
 induction vs with
 | nil =>
  intro ns as r
  cases ns with
  | nil=>exact .nil
  | cons=>cases r
 | cons v vs ih =>
  intro ns as r
  cases ns with
  | nil=>cases r
  | cons n ns=>cases r with | cons a r=>cases a;exact .cons (as:=[]) (.int _ _) (ih r)
theorem FM:∀ {xs:List WData},Vd R xs .int=true→∃ ns:List Int,xs=ns.map .int:=by
 intro a_
 induction a_ with
 | nil =>
  intro _
  exact⟨[],rfl⟩
 | cons x r ih =>
  intro h
  have h':Xv R x .int=true∧Vd R r .int=true:=by simpa [Vd] using h
  obtain⟨n,rfl⟩:=hasW_int h'.1
  obtain⟨ns,rfl⟩:=ih h'.2
  exact⟨n::ns,rfl⟩
theorem Ic(ns:List Int):sf.claim.post [.list (ns.map .int)] (.bool true) [.list (ns.map .int)]=true:=by
 show(Xv [] (.bool true) .bool&&W8 [] (.eq .res (.lit (.bool true))) { args:=[.list (ns.map .int)],res:=some (.bool true),after:=[.list (ns.map .int)] })=true
 kernel_rfl
theorem FN(hl:∀ ns:List Int,ns.length≤63→∃ XK,yj [.dat (.list (ns.map .int))] []=some (.dat (.bool true),XK)):RN.Holds:=by
 refine Ki fun w X5 XZ mg mb G Y a o pm cd doc dV kV ho hd hcd hD hmg hg args vals as hpre hlay hrd hwl hlo=>?_
 have X:(KF w.params).In XZ.heap:=Y
 have ha:mg "law"=some (.ref 1079):=mg_of X G.T.g (MU w.params)
 have hn:EZ.name="law":=by kernel_rfl
 rw[hn,ha] at hmg
 cases hmg
 refine bA (pre_splitW hpre) fun h1 h2=>?_
 refine mH (hasAllW_cons h1) fun d r XX h3 h4=>?_
 subst XX
 have h5:=hasAllW_nil h4
 subst h5
 refine aH (hasW_list h3) fun xs XW h6=>?_
 subst XW
 refine bM (FM h6) fun ns XW=>?_
 subst XW
 have XQ:ns.length≤63:=by
  have h2:W8 [] (.and (.not (.lt (.lit (.int 63)) (.len (.arg 0)))) (.lit (.bool true))) { args:=[.list (ns.map .int)] }=true:=h2
  by_cases hlt:(63:Int)<(ns.length:Int)
  ·exfalso
   simp[W8,WTm.value,less?,Num.less?,hlt] at h2
  ·lia
 cases hrd with
 | cons r1 r2 =>
  cases r2
  cases r1 with
  | @list l ob us n _ as' e1 e2 e3 e4 =>
   have R0:=AY e4
   let c:Cf:=⟨sf.prog,w,XZ.heap,KF w.params⟩
   have ok:c.Ok:=⟨rfl,X,G.T.nolimit,⟨mb,G.T.b,G.T.builtins⟩,by kernel_rfl,by kernel_rfl⟩
   have i:cH c XZ.heap [] [] []:=⟨ok,⟨rfl,by simp[ow],by simp[ow],fun j o e=>by simp at e⟩,fun b o e=>e,by simp[ow],by simp⟩
   have V:cG XZ.heap [] [] [.dat (.list (ns.map .int))] [.ref l]:=.cons ⟨[l],.list e1 e2 e3 R0⟩ .nil
   refine bM (hl ns XQ) fun XK hst=>?_
   refine S8 (MT.run (c:=c) PI i _ _ V _ _ hst) (fun v s' z=>?_) fun _ _ z=>z.elim
   refine aH (z) fun XJ S q=>?_
   have e:=DR.bool q
   subst e
   have keep:∀ b o,XZ.heap.get? b=some o→s'.heap.get? b=some o:=fun b o e=>S.keep b o e (by simp) (by simp[ow])
   refine jW (S.same) fun h' t' XX=>?_
   subst XX
   exact⟨.inl ⟨_,.bool true,[],rfl,fun _=>rfl,.bool true,Ic _,fun _=>⟨.nil,by simp⟩⟩,.of_keep keep,rfl,.of_eq hg⟩
theorem oZ:eH t f (n+1) ρ Xx=lJ (t ρ Xx) (fun XA=>yy (f ρ XA) (eH t f n)) fun XA=>some (.next,ρ,XA):=rfl
theorem zl:nx XR g body (n+1) j ρ Xx=pJ (XR Xx j) fun p=>(g p ρ).bind fun X6=>yy (body X6 Xx) (nx XR g body n (j+1)):=rfl
theorem D8:nx XR g body 0 j ρ Xx=pE (XR Xx j) (some (.next,ρ,Xx)):=rfl
theorem Bp:eT XR g t F (n+1) j ρ acc Xx=pJ (XR Xx j) fun p=>(g p ρ).bind fun X6=>lJ (t X6 Xx) (fun XA=>p3 (F X6 acc XA) (eT XR g t F n (j+1))) (eT XR g t F n (j+1) X6 acc):=rfl
theorem Bq:eT XR g t F 0 j ρ acc Xx=pE (XR Xx j) (some (ρ,acc,Xx)):=rfl
theorem aS(h:f ρ Xx=some (.next,X6,XA)):ah f g ρ Xx=g X6 XA:=by unfold ah;rw[h]
theorem bx(h:f ρ Xx=some (.ret p,X6,XA)):ah f g ρ Xx=some (.ret p,X6,XA):=by unfold ah;rw[h]
theorem KY(h:f ρ Xx=some (.cont,X6,XA)):ah f g ρ Xx=some (.cont,X6,XA):=by unfold ah;rw[h]
theorem eJ(h:t ρ Xx=some (true,XA)):bJ t f g ρ Xx=f ρ XA:=by unfold bJ;rw[h]
theorem cr(h:t ρ Xx=some (false,XA)):bJ t f g ρ Xx=g ρ XA:=by unfold bJ;rw[h]
theorem dJ(h:f ρ Xx=some (p,XA)):bQ i f ρ Xx=some (.next,ρ.set i (some p),XA):=by unfold bQ;rw[h]
theorem cp(h:f ρ Xx=some (p,XA)):aW f ρ Xx=some (.ret p,ρ,XA):=by unfold aW;rw[h]
theorem bO(h:g ρ Xx=some (ps,XA)):aI F g ρ Xx=F ps XA:=by unfold aI;rw[h]
noncomputable abbrev pI(i:Int):PV:=.dat (.int i)
noncomputable abbrev Q(p q:Int):QC:=.tuple [.int p,.int q]
theorem MV(p q:Int)(Xx:St):vD [.dat (Q p q)] Xx=some (.dat (Q (-p) q),Xx):=rfl
theorem wP(p q:Int)(Xx:St):fW [.dat (Q p q)] Xx=some (.dat (.bool (q==1)),Xx):=rfl
theorem dP(h1 : -(2 ^ 64)<a)(h2:a<2 ^ 64):bR (.int a) (.int b)=some (.int (a*b)):=if_pos (intBits_le_64 h1 h2)
theorem lz(h1:b≠0)(h2:b.natAbs<1073741824):fu (.int a) (.int b)=some (.int (a.fdiv b)):=if_pos ⟨h1,PyProof.noPylong_small h2⟩
theorem m9(h1:b≠0):gO (.int a) (.int b)=some (.int (a.fmod b)):=if_pos h1
noncomputable abbrev FO:TF:=ao (am (aP fun a b=>a !=b) (aa 1) (ae (.int 0)))
noncomputable abbrev FP:SF:=ah (fG [1,0] (ac (aa 1) (ac (am gO (aa 0) (aa 1)) af))) az
theorem FQ(Xx:St):∀ (n:Nat) (a b:Nat),b<n→eH FO FP n [some (pI a),some (pI b)] Xx=some (.next,[some (pI (Rv a b)),some (pI 0)],Xx):=by
 intro a_
 induction a_ with
 | zero =>
  intro a b h
  exact absurd (by assumption) (WG _)
 | succ n ih =>
  intro a b h
  rw[oZ]
  by_cases hb:b=0
  ·subst hb
   rw[show FO [some (pI a),some (pI (0:Nat))] Xx=some (false,Xx) from rfl,VX]
   rfl
  ·have ht:FO [some (pI a),some (pI b)] Xx=some (true,Xx):=by
    show some (((b:Int) !=0),Xx)=_
    rw[show((b:Int) !=0)=true from by simpa using hb]
   have hB:FP [some (pI a),some (pI b)] Xx=some (.next,[some (pI b),some (pI ((a % b:Nat):Int))],Xx):=by
    have hm:gO (.int (a:Int)) (.int (b:Int))=some (.int ((a % b:Nat):Int)):=by
     rw[m9 (by lia),RF _ (RE b)];rfl
    simp only[FP,ah,fG,ac,aa,am,af,SQ,SR,hm,RQ,pP,dh,gK,Rh]
    rfl
   rw[ht]
   dsimp only[lJ]
   rw[hB]
   dsimp only[yy]
   rw[ih b (a % b) (by have:=Nat.mod_lt a (VY hb);lia),Xk b (a % b),← Nat.gcd_rec,Xk]
theorem CQ(h:b.natAbs<99)(Xx:St):lV [pI a,pI b] Xx=some (pI (Rv a.natAbs b.natAbs),Xx):=by
 have ha:∀ x:Int,jZ [.int x]=some (.int (x.natAbs:Int)):=fun x=>by
  show some (QY (if x<0 then -x else x))=_
  congr 2
  exact E1 _
 show aY (uB [some (pI a),some (pI b)] Xx)=_
 have h1:fG [1,0] (ac (fh jZ (ac (aa 0) af)) (ac (fh jZ (ac (aa 1) af)) af)) [some (pI a),some (pI b)] Xx=some (.next,[some (pI a.natAbs),some (pI b.natAbs)],Xx):=by
  simp only[fG,ac,fh,aa,af,SQ,SR,kz,lP,ha,RQ,pP,dh,gK,Rh]
  rfl
 unfold uB
 rw[aS h1,aS (FQ Xx 100 _ _ nA)]
 rfl
noncomputable def fF(a b:Int):Int×Int :=
 let g:Int:=Rv a.natAbs b.natAbs
 let c:Int:=if b<0 then -g else g
 (a.fdiv c,b.fdiv c)
noncomputable abbrev Qp(x:Int×Int):QC:=Q x.1 x.2
theorem tL(h0:b≠0)(h:b.natAbs<99)(Xx:St):og [pI a,pI b] Xx=some (.dat (Qp (fF a b)),Xx):=by
 revert h0 h
 revert b a Xx
 refine @kT _ _ _ _ nI ?_
 generalize q1 _=b,q2 _=a,qe _=Xx
 intro h0 h
 have hg0:Rv a.natAbs b.natAbs≠0:=fun e=>by have:=VJ.mp e;lia
 have hgl:Rv a.natAbs b.natAbs≤b.natAbs:=VO zN (TA ..)
 show aY (wx [some (pI a),some (pI b),none] Xx)=_
 unfold wx
 have t0:ao (am (aP fun a b=>a==b) (aa 1) (ae (.int 0))) [some (pI a),some (pI b),none] Xx=some (false,Xx):=by
  show some (((b:Int)==0),Xx)=_
  rw[show((b:Int)==0)=false from by simpa using h0]
 rw[aS (cr t0),aS (dJ ((bO rfl).trans (CQ h Xx)))]
 unfold fF
 dsimp only[RG]
 by_cases hb:b<0
 ·have t1:ao (am (aP fun a b=>decide (a<b)) (aa 1) (ae (.int 0))) [some (pI a),some (pI b),some (pI (Rv a.natAbs b.natAbs))] Xx=some (true,Xx):=by
   show some (decide (b<0),Xx)=_
   rw[show decide (b<0)=true from by simpa using hb]
  rw[aS (X6:=[some (pI a),some (pI b),some (pI (-(Rv a.natAbs b.natAbs:Int)))]) ((eJ t1).trans rfl)]
  rw[if_pos hb]
  have e1:fu (.int a) (.int (-(Rv a.natAbs b.natAbs:Int)))=_:=lz (by lia) (by lia)
  have e2:fu (.int b) (.int (-(Rv a.natAbs b.natAbs:Int)))=_:=lz (by lia) (by lia)
  simp only[ah,aW,bp,ac,am,aa,SQ,SR,e1,e2,RQ,af,kz,lP,pP,dh,gK,Rh]
  rfl
 ·have t1:ao (am (aP fun a b=>decide (a<b)) (aa 1) (ae (.int 0))) [some (pI a),some (pI b),some (pI (Rv a.natAbs b.natAbs))] Xx=some (false,Xx):=by
   show some (decide (b<0),Xx)=_
   rw[show decide (b<0)=false from by simpa using hb]
  rw[aS (cr t1)]
  rw[if_neg hb]
  have e1:fu (.int a) (.int (Rv a.natAbs b.natAbs:Int))=_:=lz (by lia) (by lia)
  have e2:fu (.int b) (.int (Rv a.natAbs b.natAbs:Int))=_:=lz (by lia) (by lia)
  simp only[ah,aW,bp,ac,am,aa,SQ,SR,e1,e2,RQ,af,kz,lP,pP,dh,gK,Rh]
  rfl
noncomputable def CR(x y:Int×Int):Int×Int:=if x.2=1∧y.2=1 then(x.1+y.1,1) else fF (x.1*y.2+y.1*x.2) (x.2*y.2)
noncomputable def gw(x y:Int×Int):Int×Int:=if x.2=1∧y.2=1 then(x.1*y.1,1) else fF (x.1*y.1) (x.2*y.2)
structure Sm (x:Int×Int):Prop where
 top : -(2 ^ 60)<x.1∧x.1<2 ^ 60
 bot:0<x.2∧x.2<2 ^ 60
theorem KZ(h1:X8 ρ Xx=some (.dat a,XA))(h2:X9 ρ XA=some (.dat b,XB))(h3:g a b=some r):am g X8 X9 ρ Xx=some (.dat r,XB):=by
 unfold am
 rw[h1]
 show dh gK (X9 ρ XA) _=_
 rw[h2]
 show(g a b).map _=_
 rw[h3];rfl
theorem Br(h1:X8 ρ Xx=some (pI a,Xx))(h2:X9 ρ Xx=some (pI b,Xx)):
  sG (aP fun a b=>a==b) (aP fun a b=>a==b) X8 X9 (ae (.int 1)) ρ Xx=some (decide (a=1∧b=1),Xx):=by
 unfold sG
 rw[h1]
 dsimp only[dh,pP,gK,QQ]
 rw[h2]
 dsimp only[aP,rU,ae,d7,u8,yu,QQ]
 by_cases e:a=b
 ·subst e
  rw[show(a==a)=true from by simp]
  dsimp only[pP]
  by_cases e:a=1
  ·subst e;rfl
  ·rw[show(a==1)=false from by simpa using e];simp[e]
 ·rw[show(a==b)=false from by simpa using e]
  have:¬ (a=1∧b=1):=fun h=>e (h.1.trans h.2.symm)
  simp[this]
theorem CS(hx:Sm x)(hy:Sm y)(hd:x.2*y.2<99)(Xx:St):fH [.dat (Qp x),.dat (Qp y)] Xx=some (.dat (Qp (gw x y)),Xx):=by
 have hpos:0<x.2*y.2:=S9 hx.bot.1 hy.bot.1
 show aY (CE [some (.dat (Qp x)),some (.dat (Qp y))] Xx)=_
 unfold CE gw
 have t0:=Br (X8:=aq (aa 0) (ae (.int 1))) (X9:=aq (aa 1) (ae (.int 1))) (ρ:=[some (.dat (Qp x)),some (.dat (Qp y))]) (Xx:=Xx) (a:=x.2) (b:=y.2) rfl rfl
 have e1:am bR (aq (aa 0) (ae (.int 0))) (aq (aa 1) (ae (.int 0))) [some (.dat (Qp x)),some (.dat (Qp y))] Xx=some (pI (x.1*y.1),Xx):=by
  show(bR (.int x.1) (.int y.1)).map _=_
  rw[dP (by have:=hx.top;lia) (by have:=hx.top;lia)];rfl
 have e2:am bR (aq (aa 0) (ae (.int 1))) (aq (aa 1) (ae (.int 1))) [some (.dat (Qp x)),some (.dat (Qp y))] Xx=some (pI (x.2*y.2),Xx):=by
  show(bR (.int x.2) (.int y.2)).map _=_
  rw[dP (by have:=hx.bot;lia) (by have:=hx.bot;lia)];rfl
 by_cases h:x.2=1∧y.2=1
 ·rw[if_pos h]
  rw[show decide (x.2=1∧y.2=1)=true from by simpa using h] at t0
  rw[bx ((eJ t0).trans (bx (cp ?_)))]
  ·rfl
  ·simp only[bp,ac,e1,ae,af,kz,lP,RQ,pP,dh,gK,Rh]
   rfl
 ·rw[if_neg h]
  rw[show decide (x.2=1∧y.2=1)=false from by simpa using h] at t0
  rw[aS (cr t0),bx (cp ((bO (XA:=Xx) (ps:=[pI (x.1*y.1),pI (x.2*y.2)]) ?_).trans (tL (Tt (by assumption)) (by lia) Xx)))]
  ·rfl
  ·simp only[ac,e1,e2,af,pP,dh,gK,Rh]
theorem MW(hx:Sm x)(hy:Sm y)(hd:x.2*y.2<99)(Xx:St):i5 [.dat (Qp x),.dat (Qp y)] Xx=some (.dat (Qp (CR x y)),Xx):=by
 have hpos:0<x.2*y.2:=S9 hx.bot.1 hy.bot.1
 show aY (CD [some (.dat (Qp x)),some (.dat (Qp y))] Xx)=_
 unfold CD CR
 have t0:=Br (X8:=aq (aa 0) (ae (.int 1))) (X9:=aq (aa 1) (ae (.int 1))) (ρ:=[some (.dat (Qp x)),some (.dat (Qp y))]) (Xx:=Xx) (a:=x.2) (b:=y.2) rfl rfl
 have e1:am iq (am bR (aq (aa 0) (ae (.int 0))) (aq (aa 1) (ae (.int 1)))) (am bR (aq (aa 1) (ae (.int 0))) (aq (aa 0) (ae (.int 1)))) [some (.dat (Qp x)),some (.dat (Qp y))] Xx=some (pI (x.1*y.2+y.1*x.2),Xx):=by
  have a1:am bR (aq (aa 0) (ae (.int 0))) (aq (aa 1) (ae (.int 1))) [some (.dat (Qp x)),some (.dat (Qp y))] Xx=some (pI (x.1*y.2),Xx):=by
   show(bR (.int x.1) (.int y.2)).map _=_
   rw[dP (by have:=hx.top;lia) (by have:=hx.top;lia)];rfl
  have a2:am bR (aq (aa 1) (ae (.int 0))) (aq (aa 0) (ae (.int 1))) [some (.dat (Qp x)),some (.dat (Qp y))] Xx=some (pI (y.1*x.2),Xx):=by
   show(bR (.int y.1) (.int x.2)).map _=_
   rw[dP (by have:=hy.top;lia) (by have:=hy.top;lia)];rfl
  exact KZ a1 a2 rfl
 have e2:am bR (aq (aa 0) (ae (.int 1))) (aq (aa 1) (ae (.int 1))) [some (.dat (Qp x)),some (.dat (Qp y))] Xx=some (pI (x.2*y.2),Xx):=by
  show(bR (.int x.2) (.int y.2)).map _=_
  rw[dP (by have:=hx.bot;lia) (by have:=hx.bot;lia)];rfl
 by_cases h:x.2=1∧y.2=1
 ·rw[if_pos h]
  rw[show decide (x.2=1∧y.2=1)=true from by simpa using h] at t0
  rw[bx ((eJ t0).trans (bx (cp rfl)))]
  rfl
 ·rw[if_neg h]
  rw[show decide (x.2=1∧y.2=1)=false from by simpa using h] at t0
  rw[aS (cr t0),bx (cp ((bO (XA:=Xx) (ps:=[pI (x.1*y.2+y.1*x.2),pI (x.2*y.2)]) ?_).trans (tL (by lia) (by lia) Xx)))]
  ·rfl
  ·simp only[ac,e1,e2,af,pP,dh,gK,Rh]
noncomputable def be(h:Int):Int×Int:=if h % 2=0 then(h / 2,1) else(h,2)
theorem FR{a:Int}(h:a % 2≠0):Rv a.natAbs 2=1:=by
 have h1:Rv a.natAbs 2∣2:=TA ..
 have h2:Rv a.natAbs 2∣a.natAbs:=Nat.gcd_dvd_left ..
 have h3:Rv a.natAbs 2≤2:=VO (by decide) h1
 have h4:Rv a.natAbs 2≠0:=fun e=>by have:=VJ.mp e;lia
 have h5:Rv a.natAbs 2≠2:=fun e=>by rw[e] at h2;lia
 lia
theorem Ou{a:Int}(h:a % 2=0):Rv (2*a).natAbs 4=4:=Ww (bM (Int.dvd_of_emod_eq_zero h) fun b e=>⟨b.natAbs,by rw[e,← QK,RX];rfl⟩)
theorem rF(h:a % 2≠0):fF a 2=(a,2):=by
 unfold fF
 rw[show(2:Int).natAbs=2 from rfl,FR h]
 simp
theorem K2(h:a % 2=0):fF (2*a) 4=(a / 2,1):=by
 unfold fF
 rw[show(4:Int).natAbs=4 from rfl,Ou h]
 simp only[show ¬ ((4:Int)<0) from by decide,if_false]
 rw[Re _ (by decide),Re _ (by decide)]
 exact TV (by show 2*a / 4=a / 2;lia) rfl
theorem Id(a b:Int):CR (be a) (be b)=be (a+b):=by
 unfold CR be
 by_cases ha:a % 2=0<;>by_cases hb:b % 2=0<;>simp only[ha,hb,if_true,if_false]
 ·rw[if_pos (by simp),if_pos (by lia)]
  exact TV (by show a / 2+b / 2=(a+b) / 2;lia) rfl
 ·rw[if_neg (by simp),if_neg (by lia),show a / 2*2+b*1=a+b from by lia,show(1:Int)*2=2 from rfl,rF (by lia)]
 ·rw[if_neg (by simp),if_neg (by lia),show a*1+b / 2*2=a+b from by lia,show(2:Int)*1=2 from rfl,rF (by lia)]
 ·rw[if_neg (by simp),if_pos (by lia),show a*2+b*2=2*(a+b) from by lia,show(2:Int)*2=4 from rfl,K2 (by lia)]
theorem zn(a:Int):gw (be a) (1,1)=be a:=by
 unfold gw be
 by_cases ha:a % 2=0<;>simp only[ha,if_true,if_false]
 ·rw[if_pos (by simp)];simp
 ·rw[if_neg (by simp),TW,TW,rF ha]
theorem FS(a:Int):gw (be a) (-1,1)=be (-a):=by
 unfold gw be
 by_cases ha:a % 2=0<;>simp only[ha,if_true,if_false]
 ·rw[if_pos (by simp),if_pos ND]
  exact TV (by show a / 2*(-1) =-a / 2;lia) rfl
 ·rw[if_neg (by simp),if_neg zh,TW,rF (by show a*(-1) % 2≠0;lia)]
  exact TV (by show a*(-1) =-a;lia) rfl
theorem zo(h1 : -(2 ^ 50)<h)(h2:h<2 ^ 50):Sm (be h):=by
 unfold be
 split
 ·exact⟨⟨by show _<h / 2;lia,by show h / 2<_;lia⟩,by show(0:Int)<1∧(1:Int)<2 ^ 60;decide⟩
 ·exact⟨⟨by show _<h;lia,by show h<_;exact nD⟩,by show(0:Int)<2∧(2:Int)<2 ^ 60;decide⟩
theorem Bs(h:Int):(be h).2=1∨(be h).2=2:=by unfold be;split<;>simp
theorem zp:(be h).1=0↔h=0:=by
 unfold be
 split
 ·show h / 2=0↔_;lia
 ·show h=0↔_;exact Iff.rfl
theorem Ov:be 2=(1,1):=rfl
noncomputable abbrev Dh(h:Int):QC:=Qp (be h)
noncomputable def Bd(h:Int):Prop :=-(2 ^ 40)<h∧h<2 ^ 40
theorem CT(a b:Int):(be a).2*(be b).2<99:=by
 rcases Bs a with e | e<;>rcases Bs b with f | f<;>rw[e,f]<;>decide
theorem Bd.sm(b:Bd h):Sm (be h):=zo (by have:=b.1;exact zs) (by have:=b.2;exact nD)
theorem zq(ha:Bd a)(hb:Bd b)(Xx:St):i5 [.dat (Dh a),.dat (Dh b)] Xx=some (.dat (Dh (a+b)),Xx):=by
 rw[MW ha.sm hb.sm (CT a b) Xx,Id]
theorem GZ(ha:Bd a)(Xx:St):fH [.dat (Dh a),.dat (Dh 2)] Xx=some (.dat (Dh a),Xx):=by
 rw[CS ha.sm (zo (by decide) (by decide)) (CT a 2) Xx,Ov,zn]
theorem G6(ha:Bd a)(Xx:St):fH [.dat (Dh a),.dat (Dh (-2))] Xx=some (.dat (Dh (-a)),Xx):=by
 rw[CS ha.sm (zo (by decide) (by decide)) (CT a (-2)) Xx,show be (-2)=(-1,1) from rfl,FS]
structure Nd where
 op:Str
 args:List Int
 sort:Int
 dt:Sum Int (List Int)
 deriving DecidableEq
theorem Bt:Nonempty Nd:=⟨⟨Ts,[],0,.inl 0⟩⟩
noncomputable def pW:Sum Int (List Int)→QC
 | .inl i=>.int i
 | .inr l=>.tuple (l.map .int)
noncomputable def lB(n:Nd):List Lf:=[.inl n.op,.inr (.inr n.args),.inr (.inl n.sort),.inr n.dt]
noncomputable def qn(n:Nd):QC:=.tuple [.str n.op,.tuple (n.args.map .int),.int n.sort,pW n.dt]
noncomputable def rG(N:List Nd):List (List Lf×PV):=(N.zipIdx.drop 1).map fun x=>(lB x.1,pI (x.2:Nat))
noncomputable abbrev PJ(fd:AO)(fn fa fr ops args sorts datas:List PV)(ns:List (List Lf×PV))(Xz:List AO):St :=
 fd::.inst 688 [some (.dat (.list [.str "Bool",.str "Int",.str "Real"])),some (.dat (.list [.int 0,.int 0,.int 0])),some (.ref 2),some (.ref 3),some (.ref 4),some (pI 0),some (.ref 5),some (.ref 6),some (.ref 7),some (.ref 8),some (.ref 9),some (pI 1),some (pI 2),some (.ref 10)] ::
 .list fn::.list fa::.list fr::.list ops::.list args::.list sorts::.list datas::.tdict ns::.idict []::Xz
structure En where
 fd:AO
 fn:List PV
 fa:List PV
 fr:List PV
 deriving Inhabited
noncomputable def bk(e:En)(N:List Nd)(Xz:List AO):St :=
 PJ e.fd e.fn e.fa e.fr (N.map fun n=>.dat (.str n.op)) (N.map fun n=>.dat (.tuple (n.args.map .int))) (N.map fun n=>pI n.sort) (N.map fun n=>.dat (pW n.dt)) (rG N) Xz
theorem FT(h:lB a=lB b):a=b:=by
 obtain⟨a1,a2,a3,a4⟩:=a
 obtain⟨b1,b2,b3,b4⟩:=b
 simp only[lB,Va,Sum.inl.injEq,Sum.inr.injEq] at h
 obtain⟨rfl,rfl,rfl,rfl,_⟩:=h
 rfl
theorem rH:∀ l:List Int,oJ (l.map .int)=some l:=by
 intro a_
 induction a_ with
 | nil =>
  exact rfl
 | cons a l ih =>
  rw[QX,Fj,ih];rfl
theorem zr:∀ l:List Int,Rn (l.map .int)=true:=by
 intro a_
 induction a_ with
 | nil =>
  exact rfl
 | cons a l ih =>
  simp[Rn,Qv,ih]
theorem K3(d:Sum Int (List Int)):(pW d).canLay0=true:=by
 cases d with
 | inl i=>rfl
 | inr l=>simp[pW,Qv,zr l]
theorem Ie(d:Sum Int (List Int)):yI (pW d)=some (.inr d):=by
 cases d with
 | inl i=>rfl
 | inr l=>exact congrArg (Xw _) (rH l)
theorem Bu(h:Qv (.str n.op)=true):tE (qn n)=some (lB n):=by
 have e:tC [.str n.op,.tuple (n.args.map .int),.int n.sort,pW n.dt]=some (lB n):=by
  have a1:yI (.tuple (n.args.map .int))=some (.inr (.inr n.args)):=congrArg (Xw _) (rH n.args)
  simp only[HR,a1,Ie]
  rfl
 have k:iO (lB n)=qn n:=by unfold iO;rw[yJ e];rfl
 unfold tE qn
 dsimp only[GH,QQ]
 rw[e]
 dsimp only[QQ]
 rw[k,if_pos]
 simp[qn,Qv,Rn,zr,K3] at h ⊢
 exact h
noncomputable def mi(N:List Nd)(n:Nd):Option Nat:=((N.zipIdx.drop 1).find? fun x=>decide (x.1=n)).map (·.2)
theorem D9(n:Nd):∀ l:List (Nd×Nat),qf (l.map fun x=>(lB x.1,pI (x.2:Nat))) (lB n)=((l.find? fun x=>decide (x.1=n)).map (·.2)).map fun i=>pI (i:Nat):=by
 intro a_
 induction a_ with
 | nil =>
  exact rfl
 | cons x_ l ih =>
  obtain⟨a,i⟩:=x_
  simp only[QX,DK,WE]
  by_cases h:a=n
  ·subst h;simp
  ·have:lB a≠lB n:=fun e=>h (FT e)
   simp[this,h,ih]
theorem pX(h:mi N n=some i):N[i]?=some n∧1≤i:=by
 obtain⟨⟨a,j⟩,h1,rfl⟩:=Qx.mp h
 have h2:=List.find?_some h1
 have h3:=List.mem_of_find?_eq_some h1
 have e:a=n:=of_decide_eq_true h2
 subst e
 refine bM (Vo.mp h3) fun k hk=>?_
 rw[VZ,Vx] at hk
 refine aH (Qx.mp hk) fun b hb e=>?_
 cases e
 exact⟨by simpa using hb,by simp⟩
theorem sU(h:mi N n=none)(hi:1≤i):N[i]?≠some n:=fun e=>by
 unfold mi at h
 rw[U4,List.find?_eq_none] at h
 have:(n,i)∈N.zipIdx.drop 1:=by
  refine Vo.mpr ⟨i - 1,?_⟩
  rw[VZ,Vx,show 1+(i - 1)=i from by exact Pj,e]
  simp
 exact h _ this (by simp)
noncomputable def aU(N:List Nd)(n:Nd):Nat×List Nd:=match mi N n with
 | some i=>(i,N)
 | none=>(N.length,N++[n])
theorem Ea(n:Nd)(h:1≤N.length):rG (N++[n])=rG N++[(lB n,pI (N.length:Nat))]:=by
 unfold rG
 rw[List.zipIdx_append,List.drop_append_of_le_length (by simpa using h)]
 simp
theorem zv(ha:f ρ Xx=some (.ref o,Xx))(hst:Xx[o]?=some (.list L))(hp:fp ρ Xx=some (p,Xx))(hl:L.length<2 ^ 20):
  cM (d8 "list" cK f (ac fp af)) ρ Xx=some (.next,ρ,Xx.set o (.list (L++[p]))):=by
 unfold cM d8
 rw[ha]
 simp only[dh,pP,jX,Rh,la,ac,hp,af,cK,ot,d7,kM,hst,hl,if_true,GI,gK,Kt]
theorem MX(h1:fv ρ Xx=some (q,Xx))(h2:fo ρ Xx=some (p,Xx))(h3:fi ρ Xx=some (.dat key,Xx))(h4:wr Xx p key q=some XK):yg fv fo fi ρ Xx=some (.next,ρ,XK):=by
 unfold yg
 rw[h1]
 show pP (fo ρ Xx) _=_
 rw[h2]
 show dh gK (fi ρ Xx) _=_
 rw[h3]
 show(wr Xx p key q).map _=_
 rw[h4]
 rfl
section
variable {e:En} {N:List Nd} {Xz:List AO}
theorem pd(hs:Qv (.str n.op)=true)(h1:1≤N.length)(h2:N.length≤1000):
  iH [.ref 1,.dat (.str n.op),.dat (.tuple (n.args.map .int)),pI n.sort,.dat (pW n.dt)] (bk e N Xz)=some (pI (aU N n).1,bk e (aU N n).2 Xz):=by
 revert e N Xz n
 refine @Kp _ _ _ _ _ (bi nI (bi nI (bi nI Bt))) ?_
 generalize q1 _=e,q2 _=N,q3 _=Xz,qe _=n
 intro hs h1 h2
 show aY (yX [some (.ref 1),some (.dat (.str n.op)),some (.dat (.tuple (n.args.map .int))),some (pI n.sort),some (.dat (pW n.dt)),none,none] (bk e N Xz))=_
 unfold yX
 rw[aS (dJ (p:=.dat (qn n)) (XA:=bk e N Xz) rfl)]
 dsimp only[RG]
 have g:qf (rG N) (lB n)=(mi N n).map fun i=>pI (i:Nat):=D9 n _
 have hg:d8 "dict" Ck (aE 688 10 (aa 0)) (ac (aa 5) (ac (ae (.int 0)) af)) [some (.ref 1),some (.dat (.str n.op)),some (.dat (.tuple (n.args.map .int))),some (pI n.sort),some (.dat (pW n.dt)),some (.dat (qn n)),none] (bk e N Xz)=some (((mi N n).map fun i=>pI (i:Nat)).getD (pI 0),bk e N Xz):=by
  show(tE (qn n)).map (fun k=>((qf (rG N) k).getD (pI 0),bk e N Xz))=_
  rw[Bu hs,RQ,g]
 rw[aS (dJ hg)]
 unfold aU
 cases hf:mi N n with
 | some i =>
  have hi:=(pX hf).2
  dsimp only[RQ,Wx,RG]
  have t0:ao (am (aP fun a b=>a==b) (aa 6) (ae (.int 0))) [some (.ref 1),some (.dat (.str n.op)),some (.dat (.tuple (n.args.map .int))),some (pI n.sort),some (.dat (pW n.dt)),some (.dat (qn n)),some (pI (i:Nat))] (bk e N Xz)=some (false,bk e N Xz):=by
   show some (((i:Int)==0),bk e N Xz)=_
   rw[show((i:Int)==0)=false from by simp;exact V1 (by assumption)]
  rw[aS (cr t0)]
  rfl
 | none =>
  rw[aS (X6:=[some (.ref 1),some (.dat (.str n.op)),some (.dat (.tuple (n.args.map .int))),some (pI n.sort),some (.dat (pW n.dt)),some (.dat (qn n)),some (pI (N.length:Nat))]) (XA:=bk e (N++[n]) Xz) ?_]
  ·rfl
  ·refine(eJ (XA:=bk e N Xz) rfl).trans ?_
   rw[aS (dJ (p:=pI (N.length:Nat)) (XA:=bk e N Xz) ?_)]
   ·dsimp only[RG]
    refine(aS (zv (o:=5) rfl rfl rfl (by rw[Qs];exact nC))).trans ?_
    refine(aS (zv (o:=6) rfl rfl rfl (by rw[Qs];exact nC))).trans ?_
    refine(aS (zv (o:=7) rfl rfl rfl (by rw[Qs];exact nC))).trans ?_
    refine(aS (zv (o:=8) rfl rfl rfl (by rw[Qs];exact nC))).trans ?_
    have hset:∀ (o:Nat) (Xx:St),Xx[9]?=some (.tdict (rG N))→wr Xx (.ref 9) (qn n) (pI (N.length:Nat))=some (Xx.set 9 (.tdict (rG N++[(lB n,pI (N.length:Nat))]))):=fun o Xx hst=>by
     unfold wr
     dsimp only[jX,QQ]
     rw[hst]
     dsimp only[d7,Dt,QQ]
     rw[Bu hs]
     dsimp only[QQ]
     rw[if_pos]
     rw[g,hf]
     refine⟨rfl,?_⟩
     unfold rG
     simp
     lia
    rw[aS (MX rfl rfl rfl (hset 0 _ rfl))]
    show some (Fl.next,_,_)=some (Fl.next,_,_)
    refine congrArg (fun s=>some (Fl.next,_,s)) ?_
    unfold bk
    rw[Ea n h1]
    simp only[RZ,QX,List.map_nil]
    rfl
   ·show some (pI ((N.map fun n=>(PV.dat (.str n.op))).length:Nat),bk e N Xz)=_
    rw[Qs]
end
theorem oi (P:Nat→PV) (I:Nat→Sl→St→Prop) (hc:∀ j ρ Xx,j<n→I j ρ Xx→XR Xx j=some (some (P j))) (he:∀ ρ Xx,I n ρ Xx→XR Xx n=some none)
  (step:∀ j ρ Xx,j<n→I j ρ Xx→∃ X6 X7 XB fl,g (P j) ρ=some X6∧body X6 Xx=some (fl,X7,XB)∧(fl=.next∨fl=.cont)∧I (j+1) X7 XB) :
  ∀ (m j:Nat) (ρ:Sl) (Xx:St),m+j=n→I j ρ Xx→∃ Yg XK,nx XR g body m j ρ Xx=some (.next,Yg,XK)∧I n Yg XK:=by
 intro m
 induction m with
 | zero =>
  intro j ρ Xx e h
  rw[Xl] at e
  subst e
  exact⟨ρ,Xx,D8.trans (congrArg (pE · _) (he ρ Xx h)),h⟩
 | succ m ih =>
  intro j ρ Xx e h
  have hj:j<n:=e▸U8 (U5 m)
  refine(step j ρ Xx hj h).elim fun X6 z=>NG z fun X7 XB fl h1 h2 h3 h4=>?_
  refine cz (ih (j+1) X7 XB ((Tq m 1 j).symm.trans e) h4) fun Yg XK h5 h6=>⟨Yg,XK,?_,h6⟩
  rw[zl,hc j ρ Xx hj h]
  dsimp only[pJ]
  rw[h1]
  dsimp only[QQ]
  rw[h2]
  rcases h3 with rfl | rfl<;>exact h5
theorem K4(ht:t ρ Xx=some (true,XA))(hb:f ρ XA=some (.next,X6,XB)):eH t f (n+1) ρ Xx=eH t f n X6 XB:=by
 show lJ (t ρ Xx) _ _=_
 rw[ht]
 show yy (f ρ XA) _=_
 rw[hb]
theorem mj (P:Nat→PV) (I:Nat→Sl→List PV→St→Prop) (hc:∀ j ρ acc Xx,j<n→I j ρ acc Xx→XR Xx j=some (some (P j))) (he:∀ ρ acc Xx,I n ρ acc Xx→XR Xx n=some none)
  (step:∀ j ρ acc Xx,j<n→I j ρ acc Xx→∃ X6,g (P j) ρ=some X6∧((∃ XA,t X6 Xx=some (false,XA)∧I (j+1) X6 acc XA)∨∃ XA X7 acc₂ XB,t X6 Xx=some (true,XA)∧F X6 acc XA=some (X7,acc₂,XB)∧I (j+1) X7 acc₂ XB)) :
  ∀ (m j:Nat) (ρ:Sl) (acc:List PV) (Xx:St),m+j=n→I j ρ acc Xx→∃ Yg XN XK,eT XR g t F m j ρ acc Xx=some (Yg,XN,XK)∧I n Yg XN XK:=by
 intro m
 induction m with
 | zero =>
  intro j ρ acc Xx e h
  rw[Xl] at e
  subst e
  exact⟨ρ,acc,Xx,Bq.trans (congrArg (pE · _) (he ρ acc Xx h)),h⟩
 | succ m ih =>
  intro j ρ acc Xx e h
  have hj:j<n:=e▸U8 (U5 m)
  refine aH (step j ρ acc Xx hj h) fun X6 h1 h2=>?_
  have q:eT XR g t F (m+1) j ρ acc Xx=lJ (t X6 Xx) (fun XA=>p3 (F X6 acc XA) (eT XR g t F m (j+1))) (eT XR g t F m (j+1) X6 acc):=by
   rw[Bp,hc j ρ acc Xx hj h]
   dsimp only[pJ]
   rw[h1]
   rfl
  rw[q]
  have ih:=fun ρ acc Xx=>ih (j+1) ρ acc Xx ((Tq m 1 j).symm.trans e)
  rcases h2 with h2 | h2
  ·refine aH h2 fun XA h2 h3=>?_
   rw[h2]
   exact ih X6 acc XA h3
  ·refine h2.elim fun XA z=>iM z fun X7 acc₂ XB h2 h3 h4=>?_
   rw[h2]
   dsimp only[lJ]
   rw[h3]
   exact ih X7 acc₂ XB h4
section
variable {e:En} {N:List Nd} {Xz:List AO} {n:Nd} {t:Nat} {f g:EF} {ρ:Sl}
theorem jI(hf:f ρ Xx=some (.ref i,Xx))(h:wm C j Xx[i]?=some p):aE C j f ρ Xx=some (p,Xx):=by
 unfold aE
 rw[hf]
 dsimp only[dh,pP,jX,QQ]
 rw[h];rfl
theorem gW(hf:f ρ Xx=some (p,Xx))(hg:g ρ Xx=some (pI k,Xx))(h:iW Xx p k=some q):aq f g ρ Xx=some (q,Xx):=by
 unfold aq
 rw[hf]
 show dh mM (g ρ Xx) _=_
 rw[hg]
 show(iW Xx p k).map _=_
 rw[h];rfl
theorem bB(h:f ρ Xx=some (.dat (.bool b),XA)):ao f ρ Xx=some (b,XA):=by unfold ao;rw[h];rfl
theorem aV(h1:f ρ Xx=some (.dat a,XA))(h2:g ρ XA=some (.dat b,XB))(h:G a b=some r):am G f g ρ Xx=some (.dat r,XB):=KZ h1 h2 h
theorem bn(hf:f ρ Xx=some (.ref i,Xx))(hi:mS C Xx[i]?=true)(hg:G ρ Xx=some (ps,XA)):aC C F f G ρ Xx=F (.ref i::ps) XA:=by
 unfold aC
 rw[hf]
 show(if mS C Xx[i]?=true then pP (G ρ Xx) _ else none)=_
 rw[hi,if_pos rfl,hg]
theorem nP(h:f ρ Xx=some (.dat .none,XA)):cM f ρ Xx=some (.next,ρ,XA):=by unfold cM;rw[h];rfl
theorem cP(h:f ρ Xx=some (p,XA)):ac f af ρ Xx=some ([p],XA):=by unfold ac;rw[h];rfl
theorem cC(h:f ρ Xx=some (p,XA))(h2:G ρ XA=some (ps,XB)):ac f G ρ Xx=some (p::ps,XB):=by unfold ac;rw[h];show pP (G ρ XA) _=_;rw[h2]
theorem ml(h:T ρ Xx=some (true,XA)):eV T f g ρ Xx=f ρ XA:=by unfold eV;rw[h]
theorem j4(h:T ρ Xx=some (false,XA)):eV T f g ρ Xx=g ρ XA:=by unfold eV;rw[h]
theorem qK(h:T ρ Xx=some (b,XA)):ky T ρ Xx=some (!b,XA):=by unfold ky;rw[h]
theorem my(h:T ρ Xx=some (false,XA)):gq T U ρ Xx=some (false,XA):=by unfold gq;rw[h]
theorem i8(h:T ρ Xx=some (true,XA)):gq T U ρ Xx=U ρ XA:=by unfold gq;rw[h]
theorem qo(h:T ρ Xx=some (false,XA)):jz T U ρ Xx=U ρ XA:=by unfold jz;rw[h]
theorem CU(h:T ρ Xx=some (true,XA)):jz T U ρ Xx=some (true,XA):=by unfold jz;rw[h]
theorem zw(ht:N[t]?=some n):t<N.length:=(Qt.mp ht).1
theorem vK(ht:N[t]?=some n):(N.map F)[t]?=some (F n):=by rw[Q7,ht];rfl
theorem CV(h2:N.length≤1000)(ht:N[t]?=some n):(0:Int)≤(t:Int)∧(t:Int)<2 ^ 30:=by have:=zw ht;lia
theorem zx(h2:N.length≤1000)(ht:N[t]?=some n)(hf:f ρ (bk e N Xz)=some (.ref 1,bk e N Xz))(hg:g ρ (bk e N Xz)=some (pI (t:Nat),bk e N Xz)):aq (aE 688 6 f) g ρ (bk e N Xz)=some (.dat (.str n.op),bk e N Xz):=by
 refine gW (jI hf (p:=.ref 5) rfl) hg ?_
 unfold iW
 rw[if_pos (CV h2 ht)]
 exact vK (F:=fun n=>PV.dat (.str n.op)) ht
theorem K5(h2:N.length≤1000)(ht:N[t]?=some n)(hf:f ρ (bk e N Xz)=some (.ref 1,bk e N Xz))(hg:g ρ (bk e N Xz)=some (pI (t:Nat),bk e N Xz)):aq (aE 688 7 f) g ρ (bk e N Xz)=some (.dat (.tuple (n.args.map .int)),bk e N Xz):=by
 refine gW (jI hf (p:=.ref 6) rfl) hg ?_
 unfold iW
 rw[if_pos (CV h2 ht)]
 exact vK (F:=fun n=>PV.dat (.tuple (n.args.map .int))) ht
theorem wQ(h2:N.length≤1000)(ht:N[t]?=some n)(hf:f ρ (bk e N Xz)=some (.ref 1,bk e N Xz))(hg:g ρ (bk e N Xz)=some (pI (t:Nat),bk e N Xz)):aq (aE 688 8 f) g ρ (bk e N Xz)=some (pI n.sort,bk e N Xz):=by
 refine gW (jI hf (p:=.ref 7) rfl) hg ?_
 unfold iW
 rw[if_pos (CV h2 ht)]
 exact vK (F:=fun n=>pI n.sort) ht
theorem Ow(h2:N.length≤1000)(ht:N[t]?=some n)(hf:f ρ (bk e N Xz)=some (.ref 1,bk e N Xz))(hg:g ρ (bk e N Xz)=some (pI (t:Nat),bk e N Xz)):aq (aE 688 9 f) g ρ (bk e N Xz)=some (.dat (pW n.dt),bk e N Xz):=by
 refine gW (jI hf (p:=.ref 8) rfl) hg ?_
 unfold iW
 rw[if_pos (CV h2 ht)]
 exact vK (F:=fun n=>PV.dat (pW n.dt)) ht
theorem uO(h2:N.length≤1000)(ht:N[t]?=some n):fj [.ref 1,pI (t:Nat)] (bk e N Xz)=some (.dat (.str n.op),bk e N Xz):=by
 show aY (FH [some (.ref 1),some (pI (t:Nat))] (bk e N Xz))=_
 unfold FH
 rw[bx (cp (zx h2 ht rfl rfl))];rfl
theorem zy(h2:N.length≤1000)(ht:N[t]?=some n):gA [.ref 1,pI (t:Nat)] (bk e N Xz)=some (.dat (.tuple (n.args.map .int)),bk e N Xz):=by
 show aY (yY [some (.ref 1),some (pI (t:Nat))] (bk e N Xz))=_
 unfold yY
 rw[bx (cp (K5 h2 ht rfl rfl))];rfl
theorem vL(h2:N.length≤1000)(ht:N[t]?=some n):eI [.ref 1,pI (t:Nat)] (bk e N Xz)=some (pI n.sort,bk e N Xz):=by
 show aY (yZ [some (.ref 1),some (pI (t:Nat))] (bk e N Xz))=_
 unfold yZ
 rw[bx (cp (wQ h2 ht rfl rfl))];rfl
theorem zz(h2:N.length≤1000)(ht:N[t]?=some n):kc [.ref 1,pI (t:Nat)] (bk e N Xz)=some (.dat (pW n.dt),bk e N Xz):=by
 show aY (y4 [some (.ref 1),some (pI (t:Nat))] (bk e N Xz))=_
 unfold y4
 rw[bx (cp (Ow h2 ht rfl rfl))];rfl
theorem vM(h2:N.length≤1000)(ht:N[t]?=some n)(w:Str):kf [.ref 1,pI (t:Nat),pI n.sort,.dat (.str w)] (bk e N Xz)=some (.dat .none,bk e N Xz):=by
 show aY (y6 [some (.ref 1),some (pI (t:Nat)),some (pI n.sort),some (.dat (.str w))] (bk e N Xz))=_
 unfold y6
 rw[aS (cr (bB (aV (r:=.bool false) (wQ h2 ht rfl rfl) rfl (by show some (QT (n.sort !=n.sort))=_;simp))))]
 rfl
theorem wS(hs:s=1∨s=2)(p:PV):d6 [p,pI s] Xx=some (.dat (.bool true),Xx):=by
 rcases hs with rfl | rfl<;>rfl
theorem xz(h2:N.length≤1000)(ht:N[t]?=some n)(hs:n.sort=1∨n.sort=2)(w:Str):kr [.ref 1,pI (t:Nat),.dat (.str w)] (bk e N Xz)=some (.dat .none,bk e N Xz):=by
 show aY (nE [some (.ref 1),some (pI (t:Nat)),some (.dat (.str w))] (bk e N Xz))=_
 unfold nE
 have h1:aC 688 d6 (aa 0) (ac (aq (aE 688 8 (aa 0)) (aa 1)) af) [some (.ref 1),some (pI (t:Nat)),some (.dat (.str w))] (bk e N Xz)=d6 [.ref 1,pI n.sort] (bk e N Xz) :=
  bn (i:=1) (ps:=[pI n.sort]) (XA:=bk e N Xz) rfl rfl (cP (wQ h2 ht rfl rfl))
 rw[aS (cr (qK (b:=true) (bB (h1.trans (wS hs _)))))]
 rfl
end
theorem fP:Qv (.str "num")=true:=by decide +kernel
theorem oj:Qv (.str "*")=true:=by decide +kernel
theorem ol:Qv (.str "+")=true:=by decide +kernel
theorem fe:Qv (.str "=")=true:=by decide +kernel
theorem hZ:Qv (.str "not")=true:=by decide +kernel
theorem iK:Qv (.str "and")=true:=by decide +kernel
theorem pf:Qv (.str "or")=true:=by decide +kernel
noncomputable def aM(x:Int×Int)(s:Int):Nd:=⟨"num",[],s,.inr [x.1,x.2]⟩
theorem Ox{a:Int}(h0:0≤a)(h1:a<2 ^ 60)(k:Nat)(hk:60≤k):a.fdiv (2 ^ k)=0:=by
 have hp:(2:Int) ^ 60≤2 ^ k:=by exact_mod_cast Ta (by decide:0<2) hk
 rw[Re _ (by lia)]
 exact Int.ediv_eq_zero_of_lt h0 (by lia)
theorem Eb(h0:0≤a)(h1:a<2 ^ 60):wv (.int a) (.int 65536)=some (.int 0):=by
 show(if(0:Int)≤65536 then some (QY (a.fdiv (2 ^ (65536:Int).toNat))) else none)=_
 rw[if_pos (by decide),Ox h0 h1 _ (by decide)]
theorem Ig(hx:Sm x)(Xx:St):oT [.dat (Qp x)] Xx=some (.dat .none,Xx):=by
 show aY (oS [some (.dat (Qp x))] Xx)=_
 unfold oS
 have e1:am wv (fh jZ (ac (aq (aa 0) (ae (.int 0))) af)) (ae (.int 65536)) [some (.dat (Qp x))] Xx=some (pI 0,Xx):=by
  refine aV (a:=.int (x.1.natAbs:Int)) (b:=.int 65536) (XA:=Xx) ?_ rfl (Eb (RE _) (by have:=hx.top;lia))
  show some (PV.dat (.int (if x.1<0 then -x.1 else x.1)),Xx)=_
  congr 4
  exact E1 _
 have e2:am wv (aq (aa 0) (ae (.int 1))) (ae (.int 65536)) [some (.dat (Qp x))] Xx=some (pI 0,Xx) :=
  aV (a:=.int x.2) (b:=.int 65536) (XA:=Xx) rfl rfl (Eb (by have:=hx.bot;lia) (by have:=hx.bot;exact zt))
 rw[aS (cr ((qo (bB (aV e1 rfl rfl))).trans (bB (aV e2 rfl rfl))))]
 rfl
theorem K6(a b c d:Int):bS (Q a b) (Q c d)=some (.bool (decide (a=c∧b=d))):=by
 have h:∀ x y:Int,Q8 (Q x y)=true:=fun x y=>by
  simp[Q8,Qv,Rn,RO,Rs]
 unfold bS
 rw[if_pos ⟨h _ _,h _ _⟩]
 congr 2
 by_cases h1:a=c<;>by_cases h2:b=d<;>simp[Rg,Rc,h1,h2]
section
variable {e:En} {N:List Nd} {Xz:List AO} {n:Nd} {t:Nat} {f g:EF} {ρ:Sl}
theorem yk(h1:1≤N.length)(h2:N.length≤1000)(hx:Sm x)(hs:s=1∨s=2)(hw:s=1→x.2=1):
  fY [.ref 1,.dat (Qp x),pI s] (bk e N Xz)=some (pI (aU N (aM x s)).1,bk e (aU N (aM x s)).2 Xz):=by
 show aY (CL [some (.ref 1),some (.dat (Qp x)),some (pI s)] (bk e N Xz))=_
 unfold CL
 have a1:aC 688 d6 (aa 0) (ac (aa 2) af) [some (.ref 1),some (.dat (Qp x)),some (pI s)] (bk e N Xz)=some (.dat (.bool true),bk e N Xz) :=
  (bn (i:=1) (ps:=[pI s]) (XA:=bk e N Xz) rfl rfl rfl).trans (wS hs _)
 rw[aS (cr (qK (b:=true) (bB a1)))]
 have a2:gq (ao (am (aP fun a b=>a==b) (aa 2) (ae (.int 1)))) (ky (ao (aI fW (ac (aa 1) af)))) [some (.ref 1),some (.dat (Qp x)),some (pI s)] (bk e N Xz)=some (false,bk e N Xz):=by
  by_cases h:s=1
  ·refine(i8 (bB (aV (r:=.bool true) rfl rfl (by show some (QT (s==1))=_;rw[h];rfl)))).trans (qK (b:=true) (bB ((bO rfl).trans ((wP _ _ _).trans ?_))))
   rw[hw h];rfl
  ·exact my (bB (aV (r:=.bool false) rfl rfl (by show some (QT (s==1))=_;rw[show(s==1)=false from by simpa using h])))
 rw[aS (cr a2),aS (nP ((bO rfl).trans (Ig hx _)))]
 rw[bx (cp ((bn (i:=1) (ps:=[.dat (.str "num"),.dat (.tuple []),pI s,.dat (Qp x)]) (XA:=bk e N Xz) rfl rfl rfl).trans (pd (n:=aM x s) fP h1 h2)))]
 rfl
noncomputable def mC(x:Int×Int)(s:Int)(i t:Nat):Nd:=⟨"*",[(i:Int),(t:Int)],s,.inl 0⟩
noncomputable def dH(N:List Nd)(x:Int×Int)(s:Int)(t:Nat):Nat×List Nd :=
 if x=(1,1) then(t,N) else aU (aU N (aM x s)).2 (mC x s (aU N (aM x s)).1 t)
theorem fB(N:List Nd)(n:Nd):N.length≤(aU N n).2.length∧(aU N n).2.length≤N.length+1:=by
 unfold aU
 cases mi N n<;>simp
theorem gQ(ha:Qv (.str a)=true)(hb:Qv (.str b)=true):bS (.str a) (.str b)=some (.bool (a==b)):=by
 unfold bS
 rw[if_pos]
 ·simp[Rg]
 ·simp[Q8,ha,hb,RO]
theorem Bv(h1:1≤N.length)(h2:N.length≤990)(ht:N[t]?=some n)(hx:Sm x)(hs:n.sort=1∨n.sort=2)(hw:n.sort=1→x.2=1)(ho:Qv (.str n.op)=true)(hn:n.op≠"num"):
  ir [.ref 1,.dat (Qp x),pI (t:Nat)] (bk e N Xz)=some (pI (dH N x n.sort t).1,bk e (dH N x n.sort t).2 Xz):=by
 have h2':N.length≤1000:=by exact nA
 show aY (qg [some (.ref 1),some (.dat (Qp x)),some (pI (t:Nat)),none] (bk e N Xz))=_
 unfold qg
 rw[aS (nP ((bn (i:=1) (ps:=[pI (t:Nat),.dat (.str "*")]) (XA:=bk e N Xz) rfl rfl rfl).trans (xz h2' ht hs _)))]
 rw[aS (dJ (wQ h2' ht rfl rfl))]
 dsimp only[RG]
 rw[aS (cr (bB (aV (r:=.bool false) (zx h2' ht rfl rfl) rfl (by rw[gQ ho fP];simpa using hn))))]
 have c1:ao (am bS (aa 1) (bp (ac (ae (.int 1)) (ac (ae (.int 1)) af)))) [some (.ref 1),some (.dat (Qp x)),some (pI (t:Nat)),some (pI n.sort)] (bk e N Xz)=some (decide (x.1=1∧x.2=1),bk e N Xz) :=
  bB (aV (b:=Q 1 1) rfl rfl (K6 _ _ _ _))
 unfold dH
 by_cases hx1:x=(1,1)
 ·rw[if_pos hx1]
  rw[show decide (x.1=1∧x.2=1)=true from by rw[hx1];rfl] at c1
  rw[bx (cp ((ml c1).trans rfl))]
  rfl
 ·rw[if_neg hx1]
  rw[show decide (x.1=1∧x.2=1)=false from by simp;exact fun a b=>hx1 (TV a b)] at c1
  have len:=fB N (aM x n.sort)
  have b1:aC 688 fY (aa 0) (ac (aa 1) (ac (aa 3) af)) [some (.ref 1),some (.dat (Qp x)),some (pI (t:Nat)),some (pI n.sort)] (bk e N Xz)=some (pI (aU N (aM x n.sort)).1,bk e (aU N (aM x n.sort)).2 Xz) :=
   (bn (i:=1) (ps:=[.dat (Qp x),pI n.sort]) (XA:=bk e N Xz) rfl rfl rfl).trans (yk h1 h2' hx hs hw)
  have b2:bp (ac (aC 688 fY (aa 0) (ac (aa 1) (ac (aa 3) af))) (ac (aa 2) af)) [some (.ref 1),some (.dat (Qp x)),some (pI (t:Nat)),some (pI n.sort)] (bk e N Xz)=some (.dat (.tuple [.int (aU N (aM x n.sort)).1,.int t]),bk e (aU N (aM x n.sort)).2 Xz):=by
   unfold bp
   rw[cC b1 (cP rfl)]
   rfl
  rw[bx (cp ((j4 c1).trans ((bn (i:=1) (ps:=[.dat (.str "*"),.dat (.tuple [.int (aU N (aM x n.sort)).1,.int t]),pI n.sort,pI 0]) (XA:=bk e (aU N (aM x n.sort)).2 Xz) rfl rfl (cC rfl (cC b2 rfl))).trans (pd (n:=mC x n.sort (aU N (aM x n.sort)).1 t) oj (by lia) (by lia)))))]
  rfl
end
noncomputable abbrev tI(ts:List Nat):List QC:=ts.map fun t=>.int ((t:Nat):Int)
noncomputable abbrev tP(ts:List Nat):List PV:=ts.map fun t=>pI ((t:Nat):Int)
noncomputable def zI(N:List Nd)(s:Int)(ts:List Nat):Prop:=∀ t∈ts,∃ n,N[t]?=some n∧n.sort=s
section
variable {e:En} {N:List Nd} {Xz:List AO} {n:Nd} {t:Nat} {f g:EF} {ρ:Sl}
theorem sV (h2:N.length≤1000) (hs:zI N s ts) (hsrc:∀ o,src [some (.ref 1),some p,some (pI s),some (.dat (.str w)),o] (bk e N Xz)=some (XR,ts.length,bk e N Xz))
  (hc:∀ j t,ts[j]?=some t→XR (bk e N Xz) j=some (some (pI (t:Nat)))) (he:XR (bk e N Xz) ts.length=some none) :
  aY (ah (dM src (bZ 4) (ah (cM (aC 688 kf (aa 0) (ac (aa 4) (ac (aa 2) (ac (aa 3) af))))) az)) az [some (.ref 1),some p,some (pI s),some (.dat (.str w)),none] (bk e N Xz))=some (.dat .none,bk e N Xz):=by
 obtain⟨Yg,XK,h3,⟨o,h4⟩,h5⟩:=oi (XR:=XR) (g:=bZ 4) (body:=ah (cM (aC 688 kf (aa 0) (ac (aa 4) (ac (aa 2) (ac (aa 3) af))))) az) (n:=ts.length)
  (fun j=>pI ((ts[j]?.getD 0:Nat):Int)) (fun j ρ Xx=>(∃ o,ρ=[some (.ref 1),some p,some (pI s),some (.dat (.str w)),o])∧Xx=bk e N Xz)
  (fun j ρ Xx hj h=>by rw[h.2,hc j ts[j] (by simp[hj])];simp[hj]) (fun ρ Xx h=>by rw[h.2];exact he)
  (fun j ρ Xx hj h=>by
   obtain⟨⟨o,rfl⟩,rfl⟩:=h
   refine aH (hs ts[j] (Rt hj)) fun n hn XX=>?_
   subst XX
   have e1:ts[j]?.getD 0=ts[j]:=by simp[hj]
   rw[e1]
   refine⟨_,_,_,.next,rfl,?_,.inl rfl,⟨some (pI (ts[j]:Nat)),rfl⟩,rfl⟩
   refine(aS (nP ((bn (i:=1) (ps:=[pI (ts[j]:Nat),pI n.sort,.dat (.str w)]) (XA:=bk e N Xz) rfl rfl rfl).trans (vM h2 hn w)))).trans ?_
   rfl) ts.length 0 _ _ (by rfl) ⟨⟨none,rfl⟩,rfl⟩
 have h6:dM src (bZ 4) (ah (cM (aC 688 kf (aa 0) (ac (aa 4) (ac (aa 2) (ac (aa 3) af))))) az) [some (.ref 1),some p,some (pI s),some (.dat (.str w)),none] (bk e N Xz)=some (.next,Yg,XK):=by
  unfold dM
  rw[hsrc none]
  exact h3
 rw[aS h6,h5]
 rfl
theorem Ec(h2:N.length≤1000)(hs:zI N s ts)(hl:ts.length≤1000)(w:Str):jQ [.ref 1,.dat (.tuple (tI ts)),pI s,.dat (.str w)] (bk e N Xz)=some (.dat .none,bk e N Xz):=by
 have sm:small (tI ts)=true:=by simp[small];exact nA
 refine sV (src:=cF (aa 1)) (XR:=cA (tI ts)) h2 hs (fun o=>?_) (fun j t hj=>?_) ?_
 ·show(if small (tI ts) then some (cA (tI ts),(tI ts).length,bk e N Xz) else none)=_
  rw[sm,if_pos rfl,Qs]
 ·simp[cA,hj]
 ·simp[cA]
theorem vN(h2:N.length≤1000)(hs:zI N s ts)(hk:(bk e N Xz)[k]?=some (.list (tP ts)))(w:Str):jQ [.ref 1,.ref k,pI s,.dat (.str w)] (bk e N Xz)=some (.dat .none,bk e N Xz):=by
 refine sV (src:=cF (aa 1)) (XR:=jA k) h2 hs (fun o=>?_) (fun j t hj=>?_) ?_
 ·show d7 kM (bk e N Xz)[k]? (fun l=>some (jA k,l.length,bk e N Xz))=_
  rw[hk]
  simp[d7,kM]
 ·unfold jA
  rw[hk]
  simp[d7,kM,hj]
 ·unfold jA
  rw[hk]
  simp[d7,kM]
noncomputable def dz(ts:List Nat)(s:Int):Nd:=⟨"+",ts.map (fun t:Nat=>(t:Int)),s,.inl 0⟩
noncomputable abbrev qL(l:List α)(A:α→β)(B:β):β:=match l with
 | []=>B
 | a::r=>match r with
  | []=>A a
  | _::_=>B
theorem zJ(h:l.length≠1):qL l A B=B:=by
 cases l with
 | nil=>rfl
 | cons a r=>cases r with
  | nil=>exact absurd rfl h
  | cons=>rfl
noncomputable def f0(N:List Nd)(ts:List Nat)(s:Int):Nat×List Nd:=qL ts (fun t=>(t,N)) (aU N (dz ts s))
theorem Ed(h1:1≤N.length)(h2:N.length≤1000)(hs:zI N s (t::ts))(hl:ts.length≤900)(hs1:s=1∨s=2):
  oU [.ref 1,.dat (.tuple (tI (t::ts)))] (bk e N Xz)=some (pI (f0 N (t::ts) s).1,bk e (f0 N (t::ts) s).2 Xz):=by
 refine aH (hs t (.head _)) fun n hn XX=>?_
 subst XX
 show aY (y9 [some (.ref 1),some (.dat (.tuple (tI (t::ts))))] (bk e N Xz))=_
 unfold y9
 have sm:small (tI (t::ts))=true:=by simp[small];exact nA
 have XQ:dw (ac (aa 1) af) [some (.ref 1),some (.dat (.tuple (tI (t::ts))))] (bk e N Xz)=some (pI ((ts.length+1:Nat):Int),bk e N Xz):=by
  show((if small (tI (t::ts)) then some (tI (t::ts)).length else none).map fun(n:Nat)=>(PV.dat (.int (n:Int)),bk e N Xz))=_
  rw[sm,if_pos rfl]
  simp
 have h0:aq (aa 1) (ae (.int 0)) [some (.ref 1),some (.dat (.tuple (tI (t::ts))))] (bk e N Xz)=some (pI (t:Nat),bk e N Xz):=rfl
 have hsort:aq (aE 688 8 (aa 0)) (aq (aa 1) (ae (.int 0))) [some (.ref 1),some (.dat (.tuple (tI (t::ts))))] (bk e N Xz)=some (pI n.sort,bk e N Xz):=wQ h2 hn rfl h0
 rw[aS (cr (bB (aV (r:=.bool false) XQ rfl (by show some (QT (((ts.length+1:Nat):Int)==0))=_;rw[show(((ts.length+1:Nat):Int)==0)=false from by simp;lia]))))]
 rw[aS (nP ((bn (i:=1) (ps:=[pI (t:Nat),.dat (.str "+")]) (XA:=bk e N Xz) rfl rfl rfl).trans (xz h2 hn hs1 _)))]
 rw[aS (nP ((bn (i:=1) (ps:=[.dat (.tuple (tI (t::ts))),pI n.sort,.dat (.str "+")]) (XA:=bk e N Xz) rfl rfl (cC rfl (cC hsort rfl))).trans (Ec h2 hs (by simp;exact nA) _)))]
 cases ts with
 | nil =>
  rw[bx (cp ((ml (bB (aV (r:=.bool true) XQ rfl rfl))).trans rfl))]
  rfl
 | cons t2 r =>
  have b2:gd (ac (aa 1) af) [some (.ref 1),some (.dat (.tuple (tI (t::t2::r))))] (bk e N Xz)=some (.dat (.tuple (tI (t::t2::r))),bk e N Xz):=rfl
  have em:(dz (t::t2::r) n.sort).args.map QY=tI (t::t2::r):=by simp[dz,tI]
  have mk:=pd (e:=e) (N:=N) (Xz:=Xz) (n:=dz (t::t2::r) n.sort) ol h1 h2
  rw[em] at mk
  rw[bx (cp ((j4 (bB (aV (r:=.bool false) XQ rfl (by show some (QT ((((t2::r).length+1:Nat):Int)==1))=_;rw[show((((t2::r).length+1:Nat):Int)==1)=false from by simp;lia])))).trans
   ((bn (i:=1) (ps:=[.dat (.str "+"),.dat (.tuple (tI (t::t2::r))),pI n.sort,pI 0]) (XA:=bk e N Xz) rfl rfl (cC rfl (cC b2 (cC hsort rfl)))).trans mk)))]
  rfl
noncomputable def bU(a b:Nat):Nd:=⟨"=",[((min a b:Nat):Int),((max a b:Nat):Int)],0,.inl 0⟩
theorem K7(h1:1≤N.length)(h2:N.length≤1000)(ha:N[a]?=some na)(hb:N[b]?=some nb)(hs:nb.sort=na.sort)(XU:a≠b):sM [.ref 1,pI (a:Nat),pI (b:Nat)] (bk e N Xz)=some (pI (aU N (bU a b)).1,bk e (aU N (bU a b)).2 Xz):=by
 show aY (FK [some (.ref 1),some (pI (a:Nat)),some (pI (b:Nat))] (bk e N Xz))=_
 unfold FK
 have hw:=vM (e:=e) (Xz:=Xz) h2 hb "="
 rw[hs] at hw
 rw[aS (nP ((bn (i:=1) (ps:=[pI (b:Nat),pI na.sort,.dat (.str "=")]) (XA:=bk e N Xz) rfl rfl (cC rfl (cC (wQ h2 ha rfl rfl) rfl))).trans hw))]
 rw[aS (cr (bB (aV (r:=.bool false) rfl rfl (by show some (QT ((a:Int)==(b:Int)))=_;rw[show((a:Int)==(b:Int))=false from by simp;lia]))))]
 have b2:bp (ac (fh Co (ac (aa 1) (ac (aa 2) af))) (ac (fh Cp (ac (aa 1) (ac (aa 2) af))) af)) [some (.ref 1),some (pI (a:Nat)),some (pI (b:Nat))] (bk e N Xz)=some (.dat (.tuple ((bU a b).args.map .int)),bk e N Xz):=by
  show some (PV.dat (.tuple [.int (if(b:Int)<a then(b:Int) else a),.int (if(b:Int)>a then(b:Int) else a)]),bk e N Xz)=some (PV.dat (.tuple [.int ((min a b:Nat):Int),.int ((max a b:Nat):Int)]),bk e N Xz)
  have e1:(if(b:Int)<a then(b:Int) else a)=((min a b:Nat):Int):=by split<;>lia
  have e2:(if(b:Int)>a then(b:Int) else a)=((max a b:Nat):Int):=by split<;>lia
  rw[e1,e2]
 rw[bx (cp ((bn (i:=1) (ps:=[.dat (.str "="),.dat (.tuple ((bU a b).args.map .int)),pI 0,pI 0]) (XA:=bk e N Xz) rfl rfl (cC rfl (cC b2 rfl))).trans (pd (n:=bU a b) fe h1 h2)))]
 rfl
end
noncomputable abbrev Wt:=List (Nat×Int)
noncomputable def dI(W:Wt):List (Int×PV):=W.map fun x=>((x.1:Int),.dat (Dh x.2))
noncomputable def eu:Wt→Nat→Option Int
 | [],_=>none
 | (a,h)::r,k=>if a=k then some h else eu r k
theorem vO:eu [] k=none:=rfl
theorem ji:eu ((a,h)::r) k=if a=k then some h else eu r k:=rfl
noncomputable def i9:Wt→Nat→Int→Wt
 | [],k,h=>[(k,h)]
 | (a,g)::r,k,h=>if a=k then(a,h)::r else(a,g)::i9 r k h
theorem zS:i9 [] k h=[(k,h)]:=rfl
theorem sW:i9 ((a,g)::r) k h=if a=k then(a,h)::r else(a,g)::i9 r k h:=rfl
noncomputable def ew:Wt→Nat→Wt
 | [],_=>[]
 | (a,g)::r,k=>if a=k then r else(a,g)::ew r k
theorem qM:ew ((a,g)::r) k=if a=k then r else(a,g)::ew r k:=rfl
noncomputable def bE(W:Wt)(k:Nat):Int:=(eu W k).getD 0
theorem pg:∀ (W:Wt) (k:Nat),gu (dI W) (k:Int)=(eu W k).map fun h=>.dat (Dh h):=by
 intro a_
 induction a_ with
 | nil =>
  intro _
  exact rfl
 | cons x_ r ih =>
  obtain⟨a,h⟩:=x_
  intro k
  show(if(a:Int)=k then some (PV.dat (Dh h)) else gu (dI r) k)=_
  rw[ji]
  by_cases e:a=k
  ·rw[if_pos (by lia),if_pos e];rfl
  ·rw[if_neg (by lia),if_neg e,ih k]
theorem FU:∀ (W:Wt) (k:Nat) (h:Int),oE (dI W) (k:Int) (.dat (Dh h))=dI (i9 W k h):=by
 intro a_
 induction a_ with
 | nil =>
  intro _ _
  exact rfl
 | cons x_ r ih =>
  obtain⟨a,g⟩:=x_
  intro k h
  show(if(a:Int)=k then((a:Int),PV.dat (Dh h))::dI r else((a:Int),PV.dat (Dh g))::oE (dI r) k (.dat (Dh h)))=_
  rw[sW]
  by_cases e:a=k
  ·rw[if_pos (by lia),if_pos e];rfl
  ·rw[if_neg (by lia),if_neg e,ih k h];rfl
theorem zT:∀ (W:Wt) (k:Nat),qd (dI W) (k:Int)=dI (ew W k):=by
 intro a_
 induction a_ with
 | nil =>
  intro _
  exact rfl
 | cons x_ r ih =>
  obtain⟨a,g⟩:=x_
  intro k
  show(if(a:Int)=k then dI r else((a:Int),PV.dat (Dh g))::qd (dI r) k)=_
  rw[qM]
  by_cases e:a=k
  ·rw[if_pos (by lia),if_pos e]
  ·rw[if_neg (by lia),if_neg e,ih k];rfl
theorem rI{W:Wt}{k:Nat}:(eu W k).isSome=true↔k∈W.map (·.1):=by
 induction W with
 | nil=>simp[vO]
 | cons x r ih =>
  obtain⟨a,h⟩:=x
  rw[ji]
  by_cases e:a=k
  ·simp[e]
  ·rw[if_neg e,ih,QX,QJ]
   exact⟨.inr,fun q=>q.resolve_left fun q=>e q.symm⟩
theorem uP:∀ (W:Wt) (k:Nat) (h:Int) (y:Nat),eu (i9 W k h) y=if k=y then some h else eu W y:=by
 intro a_
 induction a_ with
 | nil =>
  intro k h y
  exact rfl
 | cons x_ r ih =>
  obtain⟨a,g⟩:=x_
  intro k h y
  rw[sW]
  by_cases e:a=k
  ·subst e
   rw[if_pos rfl]
   rw[ji,ji]
   by_cases e:a=y<;>simp[e]
  ·rw[if_neg e]
   rw[ji,ji]
   rw[ih k h y]
   by_cases e2:a=y
   ·subst e2
    have e':¬ k=a:=fun q=>e q.symm
    simp[e']
   ·simp[e2]
theorem uQ:∀ (W:Wt) (k:Nat) (h:Int),(i9 W k h).map (·.1)=if k∈W.map (·.1) then W.map (·.1) else W.map (·.1)++[k]:=by
 intro a_
 induction a_ with
 | nil =>
  intro k h
  simp[zS]
 | cons x_ r ih =>
  obtain⟨a,g⟩:=x_
  intro k h
  rw[sW]
  by_cases e:a=k
  ·simp[e]
  ·have:=ih k h
   rw[if_neg e]
   have e':¬ k=a:=fun q=>e q.symm
   simp only[QX,this,QJ,e',false_or]
   split<;>simp
theorem uR:∀ (W:Wt) (k y:Nat),(W.map (·.1)).Nodup→eu (ew W k) y=if k=y then none else eu W y:=by
 intro a_
 induction a_ with
 | nil =>
  intro k y _
  show none=ite _ none none
  rw[ite_self]
 | cons x_ r ih =>
  obtain⟨a,g⟩:=x_
  intro k y nd
  have nd':=RP.mp nd
  rw[qM]
  by_cases e:a=k
  ·subst e
   rw[if_pos rfl]
   by_cases e2:a=y
   ·subst e2
    rw[if_pos rfl]
    have:¬ (eu r a).isSome=true:=fun q=>nd'.1 (rI.mp q)
    simpa using this
   ·rw[if_neg e2]
    rw[ji,if_neg e2]
  ·rw[if_neg e]
   rw[ji,ji]
   rw[ih k y nd'.2]
   by_cases e2:a=y
   ·subst e2
    have e':¬ k=a:=fun q=>e q.symm
    simp[e']
   ·simp[e2]
theorem zU:∀ (W:Wt) (k:Nat),∃ l,(ew W k).map (·.1)=l∧l.Sublist (W.map (·.1)):=by
 intro a_
 induction a_ with
 | nil =>
  intro k
  exact⟨_,rfl,.slnil⟩
 | cons x_ r ih =>
  obtain⟨a,g⟩:=x_
  intro k
  obtain⟨l,h1,h2⟩:=ih k
  rw[qM]
  by_cases e:a=k
  ·rw[if_pos e];exact⟨_,rfl,List.sublist_cons_self ..⟩
  ·rw[if_neg e]
   refine⟨_,rfl,?_⟩
   simp only[QX]
   rw[h1]
   exact h2.cons_cons _
structure PR (P:Wt):Prop where
 nd:(P.map (·.1)).Nodup
 nz:∀ k h,eu P k=some h→h≠0
 key:∀ k∈P.map (·.1),k=4∨k=5∨k=7
theorem PR.len(h:PR P):P.length≤3:=by
 have h1:(P.map (·.1)).length≤[4,5,7].length:=by
  refine List.Nodup.length_le_of_subset h.nd fun x hx=>?_
  have:=h.key x hx
  simpa using this
 simpa using h1
noncomputable def rJ(P:Wt)(x:Nat)(h:Int):Wt:=if bE P x+h≠0 then i9 P x (bE P x+h) else if(eu P x).isSome then ew P x else P
theorem PR.add(r:PR P)(hx:x=4∨x=5∨x=7)(h:Int):PR (rJ P x h)∧∀ y,bE (rJ P x h) y=bE P y+if x=y then h else 0:=by
 revert r hx
 revert P x h
 refine @kT _ _ _ _ nI ?_
 generalize q1 _=P,q2 _=x,qe _=h
 intro r hx
 unfold rJ
 by_cases e:bE P x+h≠0
 ·rw[if_pos e]
  refine⟨⟨?_,fun k g hk=>?_,fun k hk=>?_⟩,fun y=>?_⟩
  ·rw[uQ]
   split
   ·exact r.nd
   ·rename_i hn
    rw[RK]
    exact⟨r.nd,by simp,fun a ha b hb=>by rw[Qu] at hb;subst hb;exact fun q=>hn (q▸ha)⟩
  ·rw[uP] at hk
   split at hk
   ·cases hk;exact e
   ·exact r.nz k g hk
  ·rw[uQ] at hk
   split at hk
   ·exact r.key k hk
   ·rcases Qw.mp hk with hk | hk
    ·exact r.key k hk
    ·rw[Qu] at hk;subst hk;exact hx
  ·unfold bE
   rw[uP]
   by_cases q:x=y
   ·subst q;simp[bE]
   ·simp[q]
 ·rw[if_neg e]
  have e:bE P x+h=0:=V9.mp e
  split
  ·rename_i hs
   refine aH (zU P x) fun l h1 h2=>?_
   refine⟨⟨?_,fun k g hk=>?_,fun k hk=>?_⟩,fun y=>?_⟩
   ·rw[h1];exact h2.nodup r.nd
   ·rw[uR P x k r.nd] at hk
    split at hk
    ·exact dK hk
    ·exact r.nz k g hk
   ·rw[h1] at hk;exact r.key k (h2.subset hk)
   ·unfold bE
    rw[uR P x y r.nd]
    by_cases q:x=y
    ·subst q
     simp only[if_true,Option.getD_none]
     exact e.symm
    ·simp[q]
  ·rename_i hs
   have hn:eu P x=none:=by simpa using hs
   refine⟨r,fun y=>?_⟩
   by_cases q:x=y
   ·subst q
    have h0:bE P x=0:=by unfold bE;rw[hn];rfl
    rw[if_pos rfl];lia
   ·simp[q]
section
variable {e:En} {N:List Nd} {Xz:List AO} {f g:EF} {ρ:Sl} {Xx XA:St}
theorem wT(hf:f ρ Xx=some (.ref i,Xx))(hi:la Xx[i]?=some T)(hg:G ρ Xx=some (ps,XA)):d8 T F f G ρ Xx=F i ps XA:=by
 unfold d8
 rw[hf]
 dsimp only[dh,pP,jX,QQ]
 rw[if_pos hi,hg]
theorem zW(h:Xx[i]?=some (.idict (dI W))):kp i [pI (k:Nat),.dat (Q 0 1)] Xx=some (.dat (Dh (bE W k)),Xx):=by
 show d7 qz Xx[i]? _=_
 rw[h]
 show some ((gu (dI W) k).getD _,_)=_
 rw[pg]
 unfold bE
 cases eu W k<;>rfl
theorem sX(h1:fv ρ Xx=some (q,Xx))(h2:fo ρ Xx=some (p,Xx))(h3:fi ρ Xx=some (pI k,Xx))(h4:re Xx p k q=some XK):gj fv fo fi ρ Xx=some (.next,ρ,XK):=by
 unfold gj
 rw[h1]
 show pP (fo ρ Xx) _=_
 rw[h2]
 show dh mM (fi ρ Xx) _=_
 rw[h3]
 show(re Xx p k q).map _=_
 rw[h4]
 rfl
theorem wU{i k:Nat}(hs:Xx[i]?=some (.idict (dI W)))(hl:W.length<1000):re Xx (.ref i) (k:Int) (.dat (Dh h))=some (Xx.set i (.idict (dI (i9 W k h)))):=by
 show ou Xx[i]? _ _=_
 rw[hs]
 dsimp only[ou]
 rw[if_pos (by unfold dI;rw[Qs];exact nA),FU]
structure FA (Xz:List AO) (i m:Nat) (P:Wt) (h:Int):Prop where
 inst:Xz[i]?=some (.inst 740 [some (.ref (m+11)),some (.dat (Dh h))])
 dict:Xz[m]?=some (.idict (dI P))
 pr:PR P
theorem G7:aP (fun a b=>a !=b) (.int (be s).1) (.int 0)=some (.bool (decide (s≠0))):=by
 show some (QT ((be s).1 !=0))=_
 congr 2
 by_cases h:s=0
 ·subst h;rfl
 ·have:(be s).1≠0:=fun q=>h (zp.mp q)
  simp[h,this]
theorem sZ(F:FA Xz i m P c)(hx:x=4∨x=5∨x=7)(b1:Bd (bE P x))(b2:Bd h):
  eZ [.ref (i+11),pI (x:Nat),.dat (Dh h)] (bk e N Xz)=some (.dat .none,bk e N (Xz.set m (.idict (dI (rJ P x h))))):=by
 revert e N Xz i m P c x h
 refine @tX _ _ _ _ _ _ _ _ _ _ nI ?_
 generalize q1 _=e,q2 _=N,q3 _=Xz,q4 _=i,q5 _=m,q6 _=P,q7 _=c,q8 _=x,qe _=h
 intro F hx b1 b2
 have hi:(bk e N Xz)[i+11]?=some (.inst 740 [some (.ref (m+11)),some (.dat (Dh c))]):=F.inst
 have hm:(bk e N Xz)[m+11]?=some (.idict (dI P)):=F.dict
 have XQ:=F.pr.len
 show aY (ru [some (.ref (i+11)),some (pI (x:Nat)),some (.dat (Dh h)),none] (bk e N Xz))=_
 unfold ru
 have ha:∀ o,aE 740 0 (aa 0) [some (.ref (i+11)),some (pI (x:Nat)),some (.dat (Dh h)),o] (bk e N Xz)=some (.ref (m+11),bk e N Xz):=fun o=>jI (i:=i+11) rfl (by rw[hi];rfl)
 have hd:la (bk e N Xz)[m+11]?=some "dict":=by rw[hm];rfl
 have h1:d8 "dict" kp (aE 740 0 (aa 0)) (ac (aa 1) (ac (ae (.tuple [.int 0,.int 1])) af)) [some (.ref (i+11)),some (pI (x:Nat)),some (.dat (Dh h)),none] (bk e N Xz)=some (.dat (Dh (bE P x)),bk e N Xz) :=
  (wT (ha none) hd (ps:=[pI (x:Nat),.dat (Q 0 1)]) rfl).trans (zW hm)
 rw[aS (dJ ((bO (cC h1 (cP rfl))).trans (zq b1 b2 _)))]
 dsimp only[RG]
 have t0:ao (am (aP fun a b=>a !=b) (aq (aa 3) (ae (.int 0))) (ae (.int 0))) [some (.ref (i+11)),some (pI (x:Nat)),some (.dat (Dh h)),some (.dat (Dh (bE P x+h)))] (bk e N Xz)=some (decide (bE P x+h≠0),bk e N Xz) :=
  bB (aV (a:=.int (be (bE P x+h)).1) (b:=.int 0) rfl rfl G7)
 unfold rJ
 by_cases hz:bE P x+h≠0
 ·rw[if_pos hz]
  rw[show decide (bE P x+h≠0)=true from by simpa using hz] at t0
  rw[aS ((eJ t0).trans ((aS (sX rfl (ha _) rfl (wU hm nC))).trans rfl))]
  rfl
 ·rw[if_neg hz]
  rw[show decide (bE P x+h≠0)=false from by simpa using hz] at t0
  have t1:ao (vq (aa 1) (aE 740 0 (aa 0))) [some (.ref (i+11)),some (pI (x:Nat)),some (.dat (Dh h)),some (.dat (Dh (bE P x+h)))] (bk e N Xz)=some ((eu P x).isSome,bk e N Xz):=by
   refine bB ?_
   show dh jX (aE 740 0 (aa 0) _ _) _=_
   rw[ha]
   show d7 qz (bk e N Xz)[m+11]? _=_
   rw[hm]
   show some (PV.dat (.bool (gu (dI P) x).isSome),_)=_
   rw[pg]
   cases eu P x<;>rfl
  split
  ·rename_i hs
   rw[hs] at t1
   have hdel:Ci (aE 740 0 (aa 0)) (aa 1) [some (.ref (i+11)),some (pI (x:Nat)),some (.dat (Dh h)),some (.dat (Dh (bE P x+h)))] (bk e N Xz)=some (.next,[some (.ref (i+11)),some (pI (x:Nat)),some (.dat (Dh h)),some (.dat (Dh (bE P x+h)))],bk e N (Xz.set m (.idict (dI (ew P x))))):=by
    unfold Ci
    rw[ha]
    show d7 qz (bk e N Xz)[m+11]? _=_
    rw[hm]
    show(if(gu (dI P) x).isSome then some (Fl.next,_,RG _ _ (AO.idict (qd (dI P) x))) else none)=_
    rw[if_pos (by rw[pg];simpa using hs),zT]
    rfl
   rw[aS ((cr t0).trans ((aS ((eJ t1).trans ((aS hdel).trans rfl))).trans rfl))]
   rfl
  ·rename_i hs
   have hn:(eu P x).isSome=false:=by simpa using hs
   rw[hn] at t1
   rw[aS ((cr t0).trans ((aS ((cr t1).trans rfl)).trans rfl))]
   have:Xz.set m (.idict (dI P))=Xz:=by
    obtain⟨h1,h2⟩:=Qt.mp F.dict
    rw[← h2]
    exact List.set_getElem_self ..
   rw[this]
   rfl
theorem Ee(h1:fv ρ Xx=some (q,Xx))(h2:fo ρ Xx=some (.ref i,Xx))(h3:lb Xx (.ref i) C j q=some XK):cJ C j fv fo ρ Xx=some (.next,ρ,XK):=by
 unfold cJ
 rw[h1]
 show pP (fo ρ Xx) _=_
 rw[h2]
 show(lb Xx (.ref i) C j q).map _=_
 rw[h3]
 rfl
theorem CW(F:FA Xz i m P c)(b1:Bd c)(b2:Bd h):
  iI [.ref (i+11),.dat (Dh h)] (bk e N Xz)=some (.dat .none,bk e N (Xz.set i (.inst 740 [some (.ref (m+11)),some (.dat (Dh (c+h)))]))):=by
 have hi:(bk e N Xz)[i+11]?=some (.inst 740 [some (.ref (m+11)),some (.dat (Dh c))]):=F.inst
 show aY (lW [some (.ref (i+11)),some (.dat (Dh h))] (bk e N Xz))=_
 unfold lW
 have ha:aE 740 1 (aa 0) [some (.ref (i+11)),some (.dat (Dh h))] (bk e N Xz)=some (.dat (Dh c),bk e N Xz):=jI (i:=i+11) rfl (by rw[hi];rfl)
 rw[aS (Ee (i:=i+11) ((bO (cC ha (cP rfl))).trans (zq b1 b2 _)) rfl (by show d7 Ba _ _=_;rw[hi];rfl))]
 rfl
end
noncomputable def yl:Sum Int (List Int)→Int
 | .inr [p,q]=>if q=1 then 2*p else p
 | _=>0
theorem xA(h s:Int):yl (aM (be h) s).dt=h:=by
 show(if(be h).2=1 then 2*(be h).1 else(be h).1)=h
 unfold be
 split
 ·simp;lia
 ·simp
inductive Mo (N:List Nd) (s:Int):Nat→Nat→Int→Prop
 | unk {k n}:k=4∨k=5∨k=7→N[k]?=some n→n.op=("app":Str)∨n.op=("ite":Str)→Mo N s k k 2
 | num {k h}:N[k]?=some (aM (be h) s)→Mo N s k 0 h
 | mul {k i u h}:N[k]?=some (mC (be h) s i u)→N[i]?=some (aM (be h) s)→u=4∨u=5∨u=7→Mo N s k u h
noncomputable def ff(N:List Nd)(k:Nat):Nat×Int:=match N[k]? with
 | some ⟨_,[i,u],_,_⟩=>(u.toNat,match N[i.toNat]? with
  | some n=>yl n.dt
  | none=>0)
 | some ⟨_,_,_,.inr l⟩=>(0,yl (.inr l))
 | _=>(k,2)
noncomputable def tri(k:Nat):Bool:=k==4||k==5||k==7
theorem dm:tri k=true↔k=4∨k=5∨k=7:=by simp[tri,or_assoc]
noncomputable def qN(φ:Nat→Nat×Int)(x:Nat×Int)(u:Nat):Int:=if tri x.1 then(if x.1=u then x.2 else 0) else if(φ x.1).1=u then(φ x.1).2 else 0
noncomputable def kn(φ:Nat→Nat×Int)(W:Wt)(u:Nat):Int:=(W.map fun x=>qN φ x u).sum
theorem Ih{W:Wt}{k:Nat}{f:Int}:eu W k=some f→kn φ (ew W k) u+qN φ (k,f) u=kn φ W u:=by
 induction W with
 | nil=>exact fun h=>dK h
 | cons x r ih =>
  obtain⟨a,g⟩:=x
  intro h
  rw[ji] at h
  rw[qM]
  by_cases e:a=k
  ·subst e
   rw[if_pos rfl] at h ⊢
   obtain rfl:=cE h
   simp[kn]
   exact Int.add_comm _ _
  ·rw[if_neg e] at h ⊢
   have:=ih h
   simp[kn] at this ⊢
   lia
theorem Ii(hx:tri x=true)(h:Int)(W:Wt):kn φ (i9 W x (bE W x+h)) u=kn φ W u+if x=u then h else 0:=by
 induction W with
 | nil=>simp[zS,kn,qN,hx,bE,vO]
 | cons y r ih =>
  obtain⟨a,g⟩:=y
  unfold bE at ih ⊢
  rw[sW,ji]
  by_cases e:a=x
  ·subst e
   simp only[if_true,kn,QX,Tk,qN,hx,Wx]
   split<;>lia
  ·simp only[if_neg e]
   simp only[kn,QX,Tk] at ih ⊢
   lia
noncomputable def gX(W:Wt):Nat:=(W.map fun x=>if tri x.1 then 1 else 2).sum
theorem Ij:∀ {W:Wt} {k:Nat},(eu W k).isSome=true→gX (ew W k)+(if tri k then 1 else 2)=gX W:=by
 intro a_
 induction a_ with
 | nil =>
  intro k h
  cases h
 | cons x_ r ih =>
  obtain⟨a,g⟩:=x_
  intro k h
  rw[ji] at h
  rw[qM]
  by_cases e:a=k
  ·subst e
   rw[if_pos rfl]
   simp[gX]
   exact Xm _ _
  ·rw[if_neg e] at h ⊢
   have:=ih h
   simp[gX] at this ⊢
   lia
theorem Ik(hx:tri x=true)(h:Int):∀ W:Wt,gX (i9 W x h)≤gX W+1:=by
 intro a_
 induction a_ with
 | nil =>
  simp[zS,gX,hx]
 | cons x_ r ih =>
  obtain⟨a,g⟩:=x_
  rw[sW]
  by_cases e:a=x
  ·simp[e,gX]
  ·have:=ih
   rw[if_neg e]
   simp[gX] at this ⊢
   lia
noncomputable abbrev R3(Xz:List AO)(P:Wt)(c:Int)(W:Wt):List AO:=Xz++[.inst 740 [some (.ref (Xz.length+1+11)),some (.dat (Dh c))],.idict (dI P),.idict (dI W)]
section
variable {e:En} {N:List Nd} {Xz:List AO} {P W:Wt} {c:Int}
theorem CX(r:PR P):FA (R3 Xz P c W) Xz.length (Xz.length+1) P c:=⟨by simp,by simp,r⟩
theorem Oy:(R3 Xz P c W)[Xz.length+2]?=some (.idict (dI W)):=by simp
theorem wV(W':Wt):(R3 Xz P c W).set (Xz.length+2) (.idict (dI W'))=R3 Xz P c W':=by simp[R3,Q2]
theorem Il(P':Wt):(R3 Xz P c W).set (Xz.length+1) (.idict (dI P'))=R3 Xz P' c W:=by simp[R3,Q2]
theorem Im(c':Int):(R3 Xz P c W).set (Xz.length) (.inst 740 [some (.ref (Xz.length+1+11)),some (.dat (Dh c'))])=R3 Xz P c' W:=by simp[R3,Q2]
end
theorem gR(h:ρ[i]?=some (some (.dat (.str a))))(ha:Qv (.str a)=true)(hb:Qv (.str b)=true):ao (am bS (aa i) (ae (.str b))) ρ Xx=some (a==b,Xx) :=
 bB (aV (a:=.str a) (b:=.str b) (by unfold aa;rw[h]) rfl (gQ ha hb))
theorem fQ:Qv (.str "app")=true:=by decide +kernel
theorem gl:Qv (.str "ite")=true:=by decide +kernel
theorem FV:∀ {l:Wt},l≠[]→∃ k f,eu l k=some f∧ny ((dI l).map (·.1))=(k:Int):=fun {l} h=>by
 have h1:=(xu ((dI l).map (·.1)) (by simpa [dI] using h)).1
 simp only[dI,Ra,QL,Function.comp] at h1
 refine aH (h1) fun x hx h2=>?_
 have h3:(eu l x.1).isSome=true:=rI.mpr (QL.mpr ⟨x,hx,rfl⟩)
 refine bM (Qy.mp h3) fun f hf=>?_
 exact⟨x.1,f,hf,by simp only[dI,Ra];exact h2.symm⟩
noncomputable abbrev zZ:TF:=ao (am (aP fun a b=>decide (b<a)) (dw (ac (aa 3) af)) (ae (.int 0)))
noncomputable abbrev PK:SF:=ah (bQ 9 (aI fH (ac (aC 688 kc (aa 0) (ac (aq (aa 7) (ae (.int 0))) af)) (ac (aa 5) af)))) (ah (gj (aI i5 (ac (d8 "dict" kp (aa 3) (ac (aq (aa 7) (ae (.int 1))) (ac (ae (.tuple [.int 0,.int 1])) af))) (ac (aa 9) af))) (aa 3) (aq (aa 7) (ae (.int 1)))) az)
noncomputable abbrev PL:SF:=ah (dM (cF (aa 7)) (bZ 8) (ah (gj (aI i5 (ac (d8 "dict" kp (aa 3) (ac (aa 8) (ac (ae (.tuple [.int 0,.int 1])) af))) (ac (aa 5) af))) (aa 3) (aa 8)) az)) az
noncomputable abbrev PM:SF:=ah (cM (aC 740 iI (aa 2) (ac (aI fH (ac (aC 688 kc (aa 0) (ac (aa 4) af)) (ac (aa 5) af))) af))) az
noncomputable abbrev Bw:SF:=ah (bJ (ao (am bS (aa 6) (ae (.str "num")))) PM (ah (bJ (ao (am bS (aa 6) (ae (.str "+")))) PL (ah (bJ (gq (ao (am bS (aa 6) (ae (.str "*")))) (ao (am bS (aC 688 fj (aa 0) (ac (aq (aa 7) (ae (.int 0))) af)) (ae (.str "num"))))) PK (ah (bJ (ao (am (aP fun a b=>a !=b) (aq (aa 5) (ae (.int 0))) (ae (.int 0)))) (ah (cM (aC 740 eZ (aa 2) (ac (aa 4) (ac (aa 5) af)))) az) az) az)) az)) az)) az
noncomputable abbrev ug:SF:=ah (bQ 4 (yh (ac (aa 3) af))) (ah (bQ 5 (d8 "dict" yd (aa 3) (ac (aa 4) af))) (ah (fG [7,6] (ac (aC 688 fj (aa 0) (ac (aa 4) af)) (ac (aC 688 gA (aa 0) (ac (aa 4) af)) af))) Bw))
theorem ph(h:g ρ Xx=some (ps,XA))(hl:small ps=true)(hs:jd is ps.reverse ρ=some Yg):fG is g ρ Xx=some (.next,Yg,XA):=by
 unfold fG
 rw[h]
 show(if small ps then(jd is ps.reverse ρ).map _ else none)=_
 rw[hl,if_pos rfl,hs]
 rfl
theorem z5:sN=(ah (bQ 2 (iZ 740 fZ af)) (ah (bQ 3 (mZ (gU (aa 1) (ae (.tuple [.int 1,.int 1])) sF))) (ah (eH zZ ug 200) (ah (aW (aa 2)) az)))):=rfl
section
variable {e:En} {N:List Nd} {Xz:List AO} {P W:Wt} {c f h s:Int} {t k i u:Nat} {n:Nd} {o4 o5 o6 o7 o8 o9:Option PV}
noncomputable abbrev fS(Xz:List AO)(t:Nat)(l:Sl):Sl:=some (.ref 1)::some (pI (t:Nat))::some (.ref (Xz.length+11))::some (.ref (Xz.length+2+11))::l
theorem qp:(bk e N (R3 Xz P c W))[Xz.length+2+11]?=some (.idict (dI W)):=Oy
theorem CY:zZ (fS Xz t l) (bk e N (R3 Xz P c W))=some (decide (0<W.length),bk e N (R3 Xz P c W)):=by
 refine bB (aV (a:=.int (W.length:Nat)) ?_ rfl ?_)
 ·show(ou (bk e N (R3 Xz P c W))[Xz.length+2+11]? (fun l=>some l.length) fun l=>some l.length).map _=_
  rw[qp]
  simp[ou,dI]
 ·show some (QT (decide ((0:Int)<(W.length:Nat))))=_
  congr 3
  simp
theorem tM(h2:N.length≤1000)(hg:eu W k=some f)(hm:ny ((dI W).map (·.1))=(k:Int))(hn:N[k]?=some n):
  ug (fS Xz t [o4,o5,o6,o7,o8,o9]) (bk e N (R3 Xz P c W))=Bw (fS Xz t [some (pI (k:Nat)),some (.dat (Dh f)),some (.dat (.str n.op)),some (.dat (.tuple (n.args.map .int))),o8,o9]) (bk e N (R3 Xz P c (ew W k))):=by
 unfold ug
 have a1:yh (ac (aa 3) af) (fS Xz t [o4,o5,o6,o7,o8,o9]) (bk e N (R3 Xz P c W))=some (pI (k:Nat),bk e N (R3 Xz P c W)):=by
  show d7 qz (bk e N (R3 Xz P c W))[Xz.length+2+11]? _=_
  rw[qp]
  cases W with
  | nil=>exact dK hg
  | cons a l=>rw[← hm];rfl
 rw[aS (dJ a1)]
 dsimp only[fS,RG]
 have a2:d8 "dict" yd (aa 3) (ac (aa 4) af) (fS Xz t [some (pI (k:Nat)),o5,o6,o7,o8,o9]) (bk e N (R3 Xz P c W))=some (.dat (Dh f),bk e N (R3 Xz P c (ew W k))):=by
  refine(wT (i:=Xz.length+2+11) (ps:=[pI (k:Nat)]) (XA:=bk e N (R3 Xz P c W)) rfl (by rw[qp];rfl) rfl).trans ?_
  show d7 qz (bk e N (R3 Xz P c W))[Xz.length+2+11]? _=_
  rw[qp]
  show(gu (dI W) k).bind _=_
  rw[pg,hg]
  rw[zT]
  exact congrArg (fun r=>some (PV.dat (Dh f),bk e N r)) (wV (W:=W) (Xz:=Xz) (P:=P) (c:=c) _)
 rw[aS (dJ a2)]
 dsimp only[RG]
 have a3:fG [7,6] (ac (aC 688 fj (aa 0) (ac (aa 4) af)) (ac (aC 688 gA (aa 0) (ac (aa 4) af)) af)) (fS Xz t [some (pI (k:Nat)),some (.dat (Dh f)),o6,o7,o8,o9]) (bk e N (R3 Xz P c (ew W k)))=some (.next,fS Xz t [some (pI (k:Nat)),some (.dat (Dh f)),some (.dat (.str n.op)),some (.dat (.tuple (n.args.map .int))),o8,o9],bk e N (R3 Xz P c (ew W k))):=by
  refine ph (cC ((bn (i:=1) (ps:=[pI (k:Nat)]) (XA:=bk e N (R3 Xz P c (ew W k))) rfl rfl rfl).trans (uO h2 hn)) (cP ((bn (i:=1) (ps:=[pI (k:Nat)]) (XA:=bk e N (R3 Xz P c (ew W k))) rfl rfl rfl).trans (zy h2 hn)))) rfl rfl
 rw[aS a3]
theorem MY(h2:N.length≤1000)(hn:N[k]?=some (aM (be h) s))(b1:Bd h)(b2:Bd c)(r:PR P):
  Bw (fS Xz t [some (pI (k:Nat)),some (.dat (Dh 2)),some (.dat (.str "num")),o7,o8,o9]) (bk e N (R3 Xz P c W))=some (.next,fS Xz t [some (pI (k:Nat)),some (.dat (Dh 2)),some (.dat (.str "num")),o7,o8,o9],bk e N (R3 Xz P (c+h) W)):=by
 have t0:=gR (i:=6) (ρ:=fS Xz t [some (pI (k:Nat)),some (.dat (Dh 2)),some (.dat (.str "num")),o7,o8,o9]) (Xx:=bk e N (R3 Xz P c W)) rfl fP fP
 have F:=CX (Xz:=Xz) (W:=W) (c:=c) r
 have a1:aC 740 iI (aa 2) (ac (aI fH (ac (aC 688 kc (aa 0) (ac (aa 4) af)) (ac (aa 5) af))) af) (fS Xz t [some (pI (k:Nat)),some (.dat (Dh 2)),some (.dat (.str "num")),o7,o8,o9]) (bk e N (R3 Xz P c W))=some (.dat .none,bk e N (R3 Xz P (c+h) W)):=by
  refine(bn (i:=Xz.length+11) (ps:=[.dat (Dh h)]) (XA:=bk e N (R3 Xz P c W)) rfl (by show mS 740 (R3 Xz P c W)[Xz.length]?=true;rw[F.inst];rfl) (cP ((bO (cC ((bn (i:=1) (ps:=[pI (k:Nat)]) (XA:=bk e N (R3 Xz P c W)) rfl rfl rfl).trans (zz h2 hn)) (cP rfl))).trans (GZ b1 _)))).trans ?_
  rw[CW F b2 b1,Im]
 refine(aS ((eJ t0).trans ((aS (nP a1)).trans rfl))).trans ?_
 rfl
theorem MZ(hn:n.op=("app":Str)∨n.op=("ite":Str))(hk:k=4∨k=5∨k=7)(b1:Bd f)(b2:Bd (bE P k))(r:PR P):
  ∃ P',Bw (fS Xz t [some (pI (k:Nat)),some (.dat (Dh f)),some (.dat (.str n.op)),o7,o8,o9]) (bk e N (R3 Xz P c W))=some (.next,fS Xz t [some (pI (k:Nat)),some (.dat (Dh f)),some (.dat (.str n.op)),o7,o8,o9],bk e N (R3 Xz P' c W))∧PR P'∧∀ y,bE P' y=bE P y+if k=y then f else 0:=by
 unfold Bw
 have hl:Qv (.str n.op)=true:=by
  rcases hn with h | h
  ·rw[h];exact fQ
  ·rw[h];exact gl
 have q:∀ b:Str,Qv (.str b)=true→(b="num"∨b="+"∨b="*")→ao (am bS (aa 6) (ae (.str b))) (fS Xz t [some (pI (k:Nat)),some (.dat (Dh f)),some (.dat (.str n.op)),o7,o8,o9]) (bk e N (R3 Xz P c W))=some (false,bk e N (R3 Xz P c W)):=fun b hb h=>by
  rw[gR (i:=6) rfl hl hb]
  congr 2
  rcases hn with g | g<;>rw[g]<;>rcases h with h | h | h<;>rw[h]<;>decide
 have F:=CX (Xz:=Xz) (W:=W) (c:=c) r
 have a1:ao (am (aP fun a b=>a !=b) (aq (aa 5) (ae (.int 0))) (ae (.int 0))) (fS Xz t [some (pI (k:Nat)),some (.dat (Dh f)),some (.dat (.str n.op)),o7,o8,o9]) (bk e N (R3 Xz P c W))=some (decide (f≠0),bk e N (R3 Xz P c W)) :=
  bB (aV (a:=.int (be f).1) (b:=.int 0) rfl rfl G7)
 have e1:=q "num" fP (.inl rfl)
 have e2:=q "+" ol (.inr (.inl rfl))
 have e3:=my (U:=ao (am bS (aC 688 fj (aa 0) (ac (aq (aa 7) (ae (.int 0))) af)) (ae (.str "num")))) (q "*" oj (.inr (.inr rfl)))
 by_cases hf:f=0
 ·rw[show decide (f≠0)=false from by simpa using hf] at a1
  refine⟨P,?_,r,fun y=>by rw[hf];simp⟩
  refine(aS ((cr e1).trans ((aS ((cr e2).trans ((aS ((cr e3).trans ((aS ((cr a1).trans rfl)).trans rfl))).trans rfl))).trans rfl))).trans ?_
  rfl
 ·rw[show decide (f≠0)=true from by simpa using hf] at a1
  refine⟨rJ P k f,?_,r.add hk f⟩
  have a2:aC 740 eZ (aa 2) (ac (aa 4) (ac (aa 5) af)) (fS Xz t [some (pI (k:Nat)),some (.dat (Dh f)),some (.dat (.str n.op)),o7,o8,o9]) (bk e N (R3 Xz P c W))=some (.dat .none,bk e N (R3 Xz (rJ P k f) c W)):=by
   refine(bn (i:=Xz.length+11) (ps:=[pI (k:Nat),.dat (Dh f)]) (XA:=bk e N (R3 Xz P c W)) rfl (by show mS 740 (R3 Xz P c W)[Xz.length]?=true;rw[F.inst];rfl) rfl).trans ?_
   rw[sZ F hk b2 b1,Il]
  refine(aS ((cr e1).trans ((aS ((cr e2).trans ((aS ((cr e3).trans ((aS ((eJ a1).trans ((aS (nP a2)).trans rfl))).trans rfl))).trans rfl))).trans rfl))).trans ?_
  rfl
theorem M2(h2:N.length≤1000)(hi:N[i]?=some (aM (be h) s))(b1:Bd h)(b2:Bd (bE W u))(hl:W.length<1000):
  Bw (fS Xz t [some (pI (k:Nat)),some (.dat (Dh 2)),some (.dat (.str "*")),some (.dat (.tuple [.int (i:Nat),.int (u:Nat)])),o8,o9]) (bk e N (R3 Xz P c W))=some (.next,fS Xz t [some (pI (k:Nat)),some (.dat (Dh 2)),some (.dat (.str "*")),some (.dat (.tuple [.int (i:Nat),.int (u:Nat)])),o8,some (.dat (Dh h))],bk e N (R3 Xz P c (i9 W u (bE W u+h)))):=by
 have q:∀ b:Str,Qv (.str b)=true→ao (am bS (aa 6) (ae (.str b))) (fS Xz t [some (pI (k:Nat)),some (.dat (Dh 2)),some (.dat (.str "*")),some (.dat (.tuple [.int (i:Nat),.int (u:Nat)])),o8,o9]) (bk e N (R3 Xz P c W))=some (("*":Str)==b,bk e N (R3 Xz P c W)):=fun b hb=>gR (i:=6) rfl oj hb
 have a0:aq (aa 7) (ae (.int 0)) (fS Xz t [some (pI (k:Nat)),some (.dat (Dh 2)),some (.dat (.str "*")),some (.dat (.tuple [.int (i:Nat),.int (u:Nat)])),o8,o9]) (bk e N (R3 Xz P c W))=some (pI (i:Nat),bk e N (R3 Xz P c W)):=rfl
 have e1:ao (am bS (aa 6) (ae (.str "num"))) _ _=some (false,_):=q "num" fP
 have e2:ao (am bS (aa 6) (ae (.str "+"))) _ _=some (false,_):=q "+" ol
 have e3:ao (am bS (aa 6) (ae (.str "*"))) _ _=some (true,_):=q "*" oj
 have e4:=(i8 (U:=ao (am bS (aC 688 fj (aa 0) (ac (aq (aa 7) (ae (.int 0))) af)) (ae (.str "num")))) e3).trans (bB (aV (a:=.str "num") (b:=.str "num") (r:=.bool true) ((bn (i:=1) (ps:=[pI (i:Nat)]) (XA:=bk e N (R3 Xz P c W)) rfl rfl (cP a0)).trans (uO h2 hi)) rfl (by rw[gQ fP fP];rfl)))
 have m1:bQ 9 (aI fH (ac (aC 688 kc (aa 0) (ac (aq (aa 7) (ae (.int 0))) af)) (ac (aa 5) af))) (fS Xz t [some (pI (k:Nat)),some (.dat (Dh 2)),some (.dat (.str "*")),some (.dat (.tuple [.int (i:Nat),.int (u:Nat)])),o8,o9]) (bk e N (R3 Xz P c W))=_ :=
  dJ ((bO (cC ((bn (i:=1) (ps:=[pI (i:Nat)]) (XA:=bk e N (R3 Xz P c W)) rfl rfl (cP a0)).trans (zz h2 hi)) (cP rfl))).trans (GZ b1 _))
 have g1:d8 "dict" kp (aa 3) (ac (aq (aa 7) (ae (.int 1))) (ac (ae (.tuple [.int 0,.int 1])) af)) (fS Xz t [some (pI (k:Nat)),some (.dat (Dh 2)),some (.dat (.str "*")),some (.dat (.tuple [.int (i:Nat),.int (u:Nat)])),o8,some (.dat (Dh h))]) (bk e N (R3 Xz P c W))=some (.dat (Dh (bE W u)),bk e N (R3 Xz P c W)) :=
  (wT (i:=Xz.length+2+11) (ps:=[pI (u:Nat),.dat (Q 0 1)]) (XA:=bk e N (R3 Xz P c W)) rfl (by rw[qp];rfl) rfl).trans (zW qp)
 have m2:=sX (fo:=aa 3) (fi:=aq (aa 7) (ae (.int 1))) (p:=.ref (Xz.length+2+11)) (k:=(u:Nat)) ((bO (F:=i5) (cC g1 (cP (f:=aa 9) rfl))).trans (zq b2 b1 _)) rfl rfl (wU qp hl)
 have m3:(bk e N (R3 Xz P c W)).set (Xz.length+2+11) (.idict (dI (i9 W u (bE W u+h))))=bk e N (R3 Xz P c (i9 W u (bE W u+h))):=congrArg (bk e N) (wV _)
 rw[m3] at m2
 refine(aS ((cr e1).trans ((aS ((cr e2).trans ((aS ((eJ e4).trans ((aS m1).trans ((aS m2).trans rfl)))).trans rfl))).trans rfl))).trans ?_
 rfl
end
noncomputable def In(b x:Int):Prop :=-b≤x∧x≤b
structure WI (N:List Nd) (s:Int) (W P:Wt) (c b:Int):Prop where
 nd:(W.map (·.1)).Nodup
 pr:PR P
 mo:∀ k f,eu W k=some f→(∃ u h,Mo N s k u h∧ff N k=(u,h)∧In b h)∧(tri k=false→f=2)∧In b f
 pb:∀ k,In b (bE P k)
 cb:In b c
noncomputable def z6(N:List Nd):Prop:=∀ u,tri u=true→(∃ n,N[u]?=some n∧(n.op=("app":Str)∨n.op=("ite":Str)))∧ff N u=(u,2)
theorem Io(hb:0≤b)(h:∀ k f,eu W k=some f→In b f)(k:Nat):In b (bE W k):=by
 unfold bE
 cases e:eu W k with
 | none=>exact⟨by show -b≤0;lia,hb⟩
 | some f=>exact h k f e
theorem Ip:∀ W:Wt,W.length≤gX W:=by
 intro a_
 induction a_ with
 | nil =>
  exact Ry _
 | cons x_ r ih =>
  obtain⟨a,g⟩:=x_
  have:=ih
  simp[gX] at this ⊢
  split<;>lia
theorem om(h:tri k=true):k≠0:=fun e=>by subst e;cases h
section
variable {e:En} {N:List Nd} {Xz:List AO} {s:Int} {t:Nat}
noncomputable def NS(e:En)(N:List Nd)(Xz:List AO)(t n:Nat)(W P:Wt)(c:Int)(l₀:Sl):Prop:=∃ P' l,eH zZ ug n (fS Xz t l₀) (bk e N (R3 Xz P c W))=some (.next,fS Xz t l,bk e N (R3 Xz P' (c+kn (ff N) W 0) []))∧PR P'∧∀ u,tri u=true→bE P' u=bE P u+kn (ff N) W u
noncomputable def NT(e:En)(N:List Nd)(Xz:List AO)(s:Int)(t n:Nat):Prop:=∀ (W P:Wt) (c b:Int) (o4 o5 o6 o7 o8 o9:Option PV),gX W<n→WI N s W P c b→2≤b→b*2 ^ gX W≤2 ^ 39→NS e N Xz t n W P c [o4,o5,o6,o7,o8,o9]
theorem Iq(h2:N.length≤1000)(hu:z6 N)(ih:NT e N Xz s t n)(XU:W≠[])(XQ:0<W.length)(h:gX W<n+1)(I:WI N s W P c b)(hb:2≤b)(hB:b*2 ^ gX W≤2 ^ 39):NS e N Xz t (n+1) W P c [o4,o5,o6,o7,o8,o9]:=by
 revert e N Xz s t n W P c b o4 o5 o6 o7 o8 o9
 refine @mG _ _ _ _ _ _ _ _ _ nI ?_
 generalize q1 _=e,q2 _=N,q3 _=Xz,q4 _=s,q5 _=t,q6 _=n,q7 _=W,qe _=P
 refine @mG _ _ _ _ _ _ _ _ _ nI ?_
 generalize q1 _=c,q2 _=b,q3 _=o4,q4 _=o5,q5 _=o6,q6 _=o7,q7 _=o8,qe _=o9
 intro h2 hu ih XU XQ h I hb hB
 refine cps fun G kG=>?_
 refine cz (FV XU) fun k f hg hm=>?_
 obtain⟨⟨u,hh,mo,hφ,hhb⟩,hf2,hfb⟩:=I.mo k f hg
 have hp:(1:Int)≤2 ^ gX W:=by exact_mod_cast Nat.one_le_two_pow
 have hb39:b≤2 ^ 39:=Rk (by have:=TX hp (by lia:(0:Int)≤b);lia) hB
 have BD:∀ {x:Int},In b x→Bd x:=fun {x} hx=>⟨by have:=hx.1;lia,by have:=hx.2;exact zg⟩
 have In2:∀ {x:Int},In b x→In (2*b) x:=fun {x} hx=>⟨by have:=hx.1;lia,by have:=hx.2;lia⟩
 have InA:∀ {x y:Int},In b x→In b y→In (2*b) (x+y):=fun {x y} hx hy=>⟨by have:=hx.1;have:=hy.1;lia,by have:=hx.2;have:=hy.2;lia⟩
 have hd:∀ y g,eu (ew W k) y=some g→eu W y=some g:=fun y g q=>by
  rw[uR W k y I.nd] at q
  split at q
  ·exact dK q
  ·exact q
 have Yo:((ew W k).map (·.1)).Nodup:=by obtain⟨l,q1,q2⟩:=zU W k;rw[q1];exact q2.nodup I.nd
 have hmo:∀ y g,eu (ew W k) y=some g→(∃ u h,Mo N s y u h∧ff N y=(u,h)∧In (2*b) h)∧(tri y=false→g=2)∧In (2*b) g:=fun y g q=>by
  obtain⟨⟨u,h,q1,q2,q3⟩,q4,q5⟩:=I.mo y g (hd y g q)
  exact⟨⟨u,h,q1,q2,In2 q3⟩,q4,In2 q5⟩
 have hmsr:=Ij (W:=W) (k:=k) (by rw[hg];rfl)
 have htot:=fun u=>Ih (φ:=ff N) (u:=u) hg
 have hpow:∀ m,m+1≤gX W→2*b*2 ^ m≤2 ^ 39:=fun m hm=>by
  have q:(2:Int) ^ (m+1)≤2 ^ gX W:=by exact_mod_cast Ta (by decide:0<2) hm
  have:=TX q (by lia:(0:Int)≤b)
  rw[show 2*b*2 ^ m=b*2 ^ (m+1) from by rw[Int.pow_succ,T8 (2 ^ m) 2,← QK,T8 b 2]]
  exact Rk (by assumption) (by assumption)
 have step:∀ {l:Sl} {Xx:St} {r},ug (fS Xz t [o4,o5,o6,o7,o8,o9]) (bk e N (R3 Xz P c W))=some (.next,l,Xx)→eH zZ ug n l Xx=r→eH zZ ug (n+1) (fS Xz t [o4,o5,o6,o7,o8,o9]) (bk e N (R3 Xz P c W))=r:=fun {l Xx r} q1 q2=>by
  exact(K4 (by rw[CY,show decide (0<W.length)=true from by simpa using XQ]) q1).trans q2
 refine kG ?_
 cases mo with
 | unk hk hn hop =>
  refine cps fun G kG=>?_
  rename_i nn
  have hk':=dm.mpr hk
  obtain⟨P₁,q1,q2,q3⟩:=MZ (e:=e) (N:=N) (Xz:=Xz) (W:=ew W k) (c:=c) (t:=t) (o7:=some (.dat (.tuple (nn.args.map .int)))) (o8:=o8) (o9:=o9) hop hk (BD hfb) (BD (I.pb k)) I.pr
  rw[if_pos hk'] at hmsr
  obtain⟨P',l,r1,r2,r3⟩:=ih (ew W k) P₁ c (2*b) _ _ _ _ _ _ (by lia) ⟨Yo,q2,hmo,fun y=>by
   rw[q3]
   split
   ·exact InA (I.pb y) hfb
   ·rw[Int.add_zero];exact In2 (I.pb y),In2 I.cb⟩ (by lia) (hpow _ (by lia))
  have h0:=htot 0
  have hc0:qN (ff N) (k,f) 0=0:=by unfold qN;rw[if_pos hk',if_neg (om hk')]
  refine kG ?_
  refine⟨P',l,?_,r2,fun y hy=>?_⟩
  ·rw[show c+kn (ff N) W 0=c+kn (ff N) (ew W k) 0 from by lia]
   exact step ((tM h2 hg hm hn).trans q1) r1
  ·have:=htot y
   have hc:qN (ff N) (k,f) y=if k=y then f else 0:=by unfold qN;rw[if_pos hk']
   rw[r3 y hy,q3]
   lia
 | num hn =>
  refine cps fun G kG=>?_
  have ht:tri k=false:=by
   cases q:tri k with
   | false=>rfl
   | true =>
    have:=(hu k q).2
    rw[hφ] at this
    have:=congrArg Vy this
    exact absurd this.symm (om q)
  have:=hf2 ht
  subst this
  rw[ht] at hmsr
  have hmsr:gX (ew W k)+2=gX W:=hmsr
  obtain⟨P',l,r1,r2,r3⟩:=ih (ew W k) P (c+hh) (2*b) _ _ _ _ _ _ (by lia) ⟨Yo,I.pr,hmo,fun y=>In2 (I.pb y),InA I.cb hhb⟩ (by lia) (hpow _ (by lia))
  have h0:=htot 0
  have hc:∀ y,qN (ff N) (k,2) y=if 0=y then hh else 0:=fun y=>by unfold qN;rw[ht,hφ];rfl
  refine kG ?_
  refine⟨P',l,?_,r2,fun y hy=>?_⟩
  ·rw[show c+kn (ff N) W 0=c+hh+kn (ff N) (ew W k) 0 from by have:=hc 0;rw[if_pos rfl] at this;lia]
   exact step ((tM h2 hg hm hn).trans (MY h2 hn (BD hhb) (BD I.cb) I.pr)) r1
  ·have:=htot y
   have q:=hc y
   rw[if_neg (fun q=>om hy q.symm)] at q
   rw[r3 y hy]
   lia
 | mul hn hi hu3 =>
  refine cps fun G kG=>?_
  rename_i i
  have ht:tri k=false:=by
   cases q:tri k with
   | false=>rfl
   | true =>
    obtain⟨nn,a1,a2⟩:=(hu k q).1
    rw[hn] at a1
    obtain rfl:=cE a1
    rcases a2 with a2 | a2<;>exact absurd a2 (by show ¬ (("*":Str)=_);decide)
  have:=hf2 ht
  subst this
  rw[ht] at hmsr
  have hmsr:gX (ew W k)+2=gX W:=hmsr
  have hu':=dm.mpr hu3
  have hcb:=Io (W:=ew W k) (b:=b) (by lia) (fun y g q=>(I.mo y g (hd y g q)).2.2) u
  have hl:=Ip (ew W k)
  have hset:=Ik hu' (bE (ew W k) u+hh) (ew W k)
  have hbig:gX W≤39:=QG fun q=>by
   have q:(2:Int) ^ 40≤2 ^ gX W:=by exact_mod_cast Ta (by decide:0<2) (by lia:40≤gX W)
   have:=Int.mul_le_mul_of_nonneg_right (show(1:Int)≤b by exact U9 (by assumption)) (by exact U9 (by assumption):(0:Int)≤2 ^ gX W)
   lia
  obtain⟨P',l,r1,r2,r3⟩:=ih (i9 (ew W k) u (bE (ew W k) u+hh)) P c (2*b) _ _ _ _ _ _ (by lia) ⟨by
    rw[uQ]
    split
    ·exact Yo
    ·rename_i hq
     rw[RK]
     exact⟨Yo,by simp,fun a ha b hb=>by rw[Qu] at hb;subst hb;exact fun q=>hq (q▸ha)⟩,I.pr,fun y g q=>by
    rw[uP] at q
    split at q
    ·rename_i q0
     subst q0
     obtain rfl:=cE q
     obtain⟨⟨nn,a1,a2⟩,a3⟩:=hu u hu'
     exact⟨⟨u,2,.unk hu3 a1 a2,a3,⟨by lia,by lia⟩⟩,fun q=>(by rw[hu'] at q;exact absurd q (by decide)),InA hcb hhb⟩
    ·exact hmo y g q,fun y=>In2 (I.pb y),In2 I.cb⟩ (by lia) (hpow _ (by lia))
  have h0:=htot 0
  have hc:∀ y,qN (ff N) (k,2) y=if u=y then hh else 0:=fun y=>by unfold qN;rw[ht,hφ];rfl
  have hs:=fun y=>Ii (φ:=ff N) (u:=y) hu' hh (ew W k)
  refine kG ?_
  refine⟨P',l,?_,r2,fun y hy=>?_⟩
  ·rw[show c+kn (ff N) W 0=c+kn (ff N) (i9 (ew W k) u (bE (ew W k) u+hh)) 0 from by
    have a:=hc 0
    have a':=hs 0
    rw[if_neg (om hu')] at a a'
    lia]
   exact step ((tM h2 hg hm hn).trans (M2 h2 hi (BD hhb) (BD hcb) (by lia))) r1
  ·have:=htot y
   have a:=hc y
   have a':=hs y
   rw[r3 y hy]
   lia
theorem Ir(h2:N.length≤1000)(hu:z6 N)(n:Nat):NT e N Xz s t n:=by
 induction n with
 | zero=>exact fun W P c b o4 o5 o6 o7 o8 o9 h _ _ _=>absurd h (WG _)
 | succ n ih =>
  intro W P c b o4 o5 o6 o7 o8 o9 h I hb hB
  cases W with
  | nil =>
   refine⟨P,[o4,o5,o6,o7,o8,o9],?_,I.pr,fun u _=>by simp[kn]⟩
   rw[oZ]
   rw[CY]
   simp[kn]
  | cons=>exact Iq h2 hu ih (List.cons_ne_nil _ _) (U5 _) h I hb hB
end
noncomputable def df(N:List Nd)(ts:List Nat)(y:Nat):Int:=(ts.map fun k=>if(ff N k).1=y then(ff N k).2 else 0).sum
structure TS (N:List Nd) (s:Int) (t:Nat) (ts:List Nat):Prop where
 is:ts=[t]∨N[t]?=some (dz ts s)
 nd:ts.Nodup
 few:ts.length≤4
 mo:∀ k∈ts,∃ u h,Mo N s k u h∧ff N k=(u,h)∧In 1000 h
noncomputable abbrev fT(ts:List Nat):Wt:=ts.map fun k=>(k,2)
theorem z7:∀ (ts:List Nat) (k:Nat),eu (fT ts) k=if k∈ts then some 2 else none:=by
 intro a_
 induction a_ with
 | nil =>
  intro k
  exact rfl
 | cons a ts ih =>
  intro k
  show(if a=k then some 2 else eu (fT ts) k)=_
  rw[ih k]
  by_cases e:a=k
  ·simp[e]
  ·have e':¬ k=a:=fun q=>e q.symm
   simp[e,e']
theorem FW:∀ (ts:List Nat) (k:Nat),k∉ts→i9 (fT ts) k 2=fT (ts++[k]):=by
 intro a_
 induction a_ with
 | nil =>
  intro k _
  exact rfl
 | cons a ts ih =>
  intro k h
  have e:¬ a=k:=fun q=>h (q▸.head _)
  show(if a=k then _ else(a,2)::i9 (fT ts) k 2)=_
  rw[if_neg e,ih k (fun q=>h (.tail _ q))]
  rfl
theorem z8{s:Int}(hu:z6 N)(y:Nat)(ts:List Nat):kn (ff N) (fT ts) y=df N ts y:=by
 induction ts with
 | nil=>rfl
 | cons a ts this =>
  simp only[kn,df,fT,QX,Tk] at this ⊢
  rw[this]
  congr 1
  unfold qN
  cases ht:tri a with
  | false=>rfl
  | true=>rw[(hu a ht).2];rfl
theorem FX:∀ ts:List Nat,gX (fT ts)≤2*ts.length:=by
 intro a_
 induction a_ with
 | nil =>
  exact QZ _
 | cons a ts ih =>
  have:=ih
  simp only[gX,fT,QX,Tk,UV] at this ⊢
  split<;>lia
section
variable {e:En} {N:List Nd} {Xz:List AO} {s:Int} {t:Nat} {ρ:Sl}
theorem Ef:iZ 740 fZ af ρ (bk e N Xz)=some (.ref (Xz.length+11),bk e N (Xz++[AO.inst 740 [some (.ref (Xz.length+1+11)),some (.dat (Dh 0))],AO.idict []])):=by
 have a1:∀ l:List AO,fZ [.ref (Xz.length+11)] (bk e N (Xz++[AO.inst 740 [none,none]]))=some (.dat .none,bk e N (Xz++[AO.inst 740 [some (.ref (Xz.length+1+11)),some (.dat (Dh 0))],AO.idict []])):=fun _=>by
  show aY (qh [some (.ref (Xz.length+11))] (bk e N (Xz++[AO.inst 740 [none,none]])))=_
  unfold qh
  have b1:cJ 740 0 oC (aa 0) [some (.ref (Xz.length+11))] (bk e N (Xz++[AO.inst 740 [none,none]]))=some (.next,[some (.ref (Xz.length+11))],bk e N (Xz++[AO.inst 740 [some (.ref (Xz.length+1+11)),none],AO.idict []])):=by
   show(lb (bk e N ((Xz++[AO.inst 740 [none,none]])++[AO.idict []])) (.ref (Xz.length+11)) 740 0 (.ref ((Xz++[AO.inst 740 [none,none]]).length+11))).map _=_
   unfold lb
   dsimp only[jX,QQ,d7]
   rw[show(bk e N ((Xz++[AO.inst 740 [none,none]])++[AO.idict []]))[Xz.length+11]?=some (AO.inst 740 [none,none]) from by
    show((Xz++[AO.inst 740 [none,none]])++[AO.idict []])[Xz.length]?=_
    simp]
   show some (Fl.next,[some (PV.ref (Xz.length+11))],bk e N (((Xz++[AO.inst 740 [none,none]])++[AO.idict []]).set Xz.length (AO.inst 740 [some (.ref ((Xz++[AO.inst 740 [none,none]]).length+11)),none])))=_
   simp[Q2]
  rw[aS b1]
  have b2:cJ 740 1 (ae (.tuple [.int 0,.int 1])) (aa 0) [some (.ref (Xz.length+11))] (bk e N (Xz++[AO.inst 740 [some (.ref (Xz.length+1+11)),none],AO.idict []]))=some (.next,[some (.ref (Xz.length+11))],bk e N (Xz++[AO.inst 740 [some (.ref (Xz.length+1+11)),some (.dat (Dh 0))],AO.idict []])):=by
   show(lb (bk e N (Xz++[AO.inst 740 [some (.ref (Xz.length+1+11)),none],AO.idict []])) (.ref (Xz.length+11)) 740 1 (.dat (Dh 0))).map _=_
   unfold lb
   dsimp only[jX,QQ,d7]
   rw[show(bk e N (Xz++[AO.inst 740 [some (.ref (Xz.length+1+11)),none],AO.idict []]))[Xz.length+11]?=some (AO.inst 740 [some (.ref (Xz.length+1+11)),none]) from by
    show(Xz++[AO.inst 740 [some (.ref (Xz.length+1+11)),none],AO.idict []])[Xz.length]?=_
    simp]
   show some (Fl.next,[some (PV.ref (Xz.length+11))],bk e N ((Xz++[AO.inst 740 [some (.ref (Xz.length+1+11)),none],AO.idict []]).set Xz.length (AO.inst 740 [some (.ref (Xz.length+1+11)),some (.dat (Dh 0))])))=_
   simp[Q2]
  rw[aS b2]
  rfl
 unfold iZ af
 dsimp only[pP]
 have a2:=a1 []
 rw[show fZ (.ref (bk e N Xz).length::[]) (bk e N Xz++[AO.inst 740 (m4 740)])=fZ [.ref (Xz.length+11)] (bk e N (Xz++[AO.inst 740 [none,none]])) from rfl,a2]
 rfl
theorem Is(hu:z6 N)(Yo:ts.Nodup)(mo:∀ k∈ts,∃ u h,Mo N s k u h∧ff N k=(u,h)∧In 1000 h):WI N s (fT ts) [] 0 1000 :=
 ⟨by simpa [fT,Function.comp_def] using Yo,⟨(by simp),(fun k h q=>dK q),(fun k q=>by simp at q)⟩,(fun k f q=>by
  rw[z7] at q
  split at q
  ·rename_i hk
   obtain rfl:=cE q
   exact⟨mo k hk,fun _=>rfl,by unfold In;decide⟩
  ·cases q),(fun k=>by simp[bE,vO,In]),(by unfold In;decide)⟩
theorem FY(h2:N.length≤1000)(hn:N[t]?=some (dz ts s))(Yo:ts.Nodup)(hf:ts.length≤4):
  ∃ l0 l1 l2 l3 l4 l5,ug (fS Xz t [o4,o5,o6,o7,o8,o9]) (bk e N (R3 Xz [] 0 [(t,2)]))=some (.next,fS Xz t [l0,l1,l2,l3,l4,l5],bk e N (R3 Xz [] 0 (fT ts))):=by
 revert e N Xz s t ts o4 o5 o6 o7 o8 o9
 refine @p9 _ _ _ _ _ _ _ _ _ _ _ _ _ nI ?_
 generalize q1 _=e,q2 _=N,q3 _=Xz,q4 _=s,q5 _=t,q6 _=ts,q7 _=o4,q8 _=o5,q9 _=o6,lI _=o7,qx _=o8,qe _=o9
 intro h2 hn Yo hf
 refine cps fun G kG=>?_
 have pre:=tM (e:=e) (N:=N) (Xz:=Xz) (P:=[]) (W:=[(t,2)]) (c:=0) (f:=2) (t:=t) (k:=t) (o4:=o4) (o5:=o5) (o6:=o6) (o7:=o7) (o8:=o8) (o9:=o9) h2 (by simp[eu]) rfl hn
 rw[show ew [(t,2)] t=[] from by rw[qM,if_pos rfl]] at pre
 have sm:small (tI ts)=true:=by simp[small];exact nA
 have ea:(dz ts s).args.map QY=tI ts:=by simp[dz,tI]
 rw[ea] at pre
 obtain⟨Yg,XK,h3,⟨o,h4⟩,h5⟩:=oi (XR:=cA (tI ts)) (g:=bZ 8) (body:=ah (gj (aI i5 (ac (d8 "dict" kp (aa 3) (ac (aa 8) (ac (ae (.tuple [.int 0,.int 1])) af))) (ac (aa 5) af))) (aa 3) (aa 8)) az) (n:=ts.length)
  (fun j=>pI ((ts[j]?.getD 0:Nat):Int)) (fun j ρ Xx=>(∃ o,ρ=fS Xz t [some (pI (t:Nat)),some (.dat (Dh 2)),some (.dat (.str "+")),some (.dat (.tuple (tI ts))),o,o9])∧Xx=bk e N (R3 Xz [] 0 (fT (ts.take j))))
  (fun j ρ Xx hj h=>by simp[cA,hj]) (fun ρ Xx h=>by simp[cA])
  (fun j ρ Xx hj h=>by
   obtain⟨⟨o,rfl⟩,rfl⟩:=h
   have e1:ts[j]?.getD 0=ts[j]:=by simp[hj]
   have e2:ts[j]∉ts.take j:=fun q=>by
    obtain⟨i,hi,q⟩:=Tf.mp q
    have:=(Sj Yo).mp q
    lia
   have e3:bE (fT (ts.take j)) ts[j]=0:=by unfold bE;rw[z7,if_neg e2];rfl
   rw[e1]
   have g1:d8 "dict" kp (aa 3) (ac (aa 8) (ac (ae (.tuple [.int 0,.int 1])) af)) (fS Xz t [some (pI (t:Nat)),some (.dat (Dh 2)),some (.dat (.str "+")),some (.dat (.tuple (tI ts))),some (pI (ts[j]:Nat)),o9]) (bk e N (R3 Xz [] 0 (fT (ts.take j))))=some (.dat (Dh 0),bk e N (R3 Xz [] 0 (fT (ts.take j)))):=by
    refine(wT (i:=Xz.length+2+11) (ps:=[pI (ts[j]:Nat),.dat (Q 0 1)]) (XA:=bk e N (R3 Xz [] 0 (fT (ts.take j)))) rfl (by rw[qp];rfl) rfl).trans ((zW qp).trans ?_)
    rw[e3]
   have m2:=sX (fo:=aa 3) (fi:=aa 8) (p:=.ref (Xz.length+2+11)) (k:=(ts[j]:Nat)) ((bO (F:=i5) (cC g1 (cP (f:=aa 5) rfl))).trans (zq (a:=0) (b:=2) (by unfold Bd;decide) (by unfold Bd;decide) _)) rfl rfl (wU qp (by simp;exact zX))
   refine⟨_,_,_,.next,rfl,(aS m2).trans rfl,.inl rfl,⟨some (pI (ts[j]:Nat)),rfl⟩,?_⟩
   show(bk e N (R3 Xz [] 0 (fT (ts.take j)))).set (Xz.length+2+11) (AO.idict (dI (i9 (fT (ts.take j)) ts[j] 2)))=_
   rw[FW _ _ e2,show(bk e N (R3 Xz [] 0 (fT (ts.take j)))).set (Xz.length+2+11) (AO.idict (dI (fT (ts.take j++[ts[j]]))))=bk e N (R3 Xz [] 0 (fT (ts.take j++[ts[j]]))) from congrArg (bk e N) (wV _),← List.take_succ_eq_append_getElem hj])
  ts.length 0 _ _ (by rfl) ⟨⟨o8,rfl⟩,rfl⟩
 have h6:dM (cF (aa 7)) (bZ 8) (ah (gj (aI i5 (ac (d8 "dict" kp (aa 3) (ac (aa 8) (ac (ae (.tuple [.int 0,.int 1])) af))) (ac (aa 5) af))) (aa 3) (aa 8)) az) (fS Xz t [some (pI (t:Nat)),some (.dat (Dh 2)),some (.dat (.str "+")),some (.dat (.tuple (tI ts))),o8,o9]) (bk e N (R3 Xz [] 0 []))=some (.next,Yg,XK):=by
  unfold dM
  rw[show cF (aa 7) (fS Xz t [some (pI (t:Nat)),some (.dat (Dh 2)),some (.dat (.str "+")),some (.dat (.tuple (tI ts))),o8,o9]) (bk e N (R3 Xz [] 0 []))=if small (tI ts) then some (cA (tI ts),(tI ts).length,bk e N (R3 Xz [] 0 [])) else none from rfl,sm,if_pos rfl,Qs]
  exact h3
 have q:∀ b:Str,Qv (.str b)=true→ao (am bS (aa 6) (ae (.str b))) (fS Xz t [some (pI (t:Nat)),some (.dat (Dh 2)),some (.dat (.str "+")),some (.dat (.tuple (tI ts))),o8,o9]) (bk e N (R3 Xz [] 0 []))=some (("+":Str)==b,bk e N (R3 Xz [] 0 [])):=fun b hb=>gR (i:=6) rfl ol hb
 have e1:ao (am bS (aa 6) (ae (.str "num"))) _ _=some (false,_):=q "num" fP
 have e2:ao (am bS (aa 6) (ae (.str "+"))) _ _=some (true,_):=q "+" ol
 rw[Sn] at h5
 subst h4 h5
 refine kG ?_
 refine⟨some (pI (t:Nat)),some (.dat (Dh 2)),some (.dat (.str "+")),some (.dat (.tuple (tI ts))),o,o9,pre.trans ?_⟩
 refine(aS ((cr e1).trans ((aS ((eJ e2).trans ((aS h6).trans rfl))).trans rfl))).trans ?_
 rfl
theorem Eg(h2:N.length≤1000)(hu:z6 N)(T:TS N s t ts):∃ P,m7 [.ref 1,pI (t:Nat)] (bk e N Xz)=some (.ref (Xz.length+11),bk e N (R3 Xz P (df N ts 0) []))∧PR P∧∀ u,tri u=true→bE P u=df N ts u:=by
 revert e N Xz s t ts
 refine @u4 _ _ _ _ _ _ _ nI ?_
 generalize q1 _=e,q2 _=N,q3 _=Xz,q4 _=s,q5 _=t,qe _=ts
 intro h2 hu T
 have L:∀ n (o4 o5 o6 o7 o8 o9:Option PV),9≤n→∃ P l,eH zZ ug n (fS Xz t [o4,o5,o6,o7,o8,o9]) (bk e N (R3 Xz [] 0 (fT ts)))=some (.next,fS Xz t l,bk e N (R3 Xz P (df N ts 0) []))∧PR P∧∀ u,tri u=true→bE P u=df N ts u:=fun n o4 o5 o6 o7 o8 o9 hn=>by
  refine cps fun G3 kG3=>?_
  have hm:=FX ts
  have hf:=T.few
  obtain⟨P,l,a1,a2,a3⟩:=Ir (e:=e) (Xz:=Xz) (t:=t) h2 hu n (fT ts) [] 0 1000 o4 o5 o6 o7 o8 o9 (by lia) (Is hu T.nd T.mo) (by decide) (by
   have q:(2:Int) ^ gX (fT ts)≤2 ^ 8:=by exact_mod_cast Ta (by decide:0<2) (by lia:gX (fT ts)≤8)
   lia)
  refine kG3 ?_
  refine⟨P,l,?_,a2,fun u h=>?_⟩
  ·rw[a1,z8 (s:=s) hu,Xn]
  ·rw[a3 u h,z8 (s:=s) hu]
   simp[bE,vO]
 show ∃ P,aY (sN [some (.ref 1),some (pI (t:Nat)),none,none,none,none,none,none,none,none] (bk e N Xz))=_∧_
 rw[z5,aS (dJ Ef)]
 dsimp only[RG]
 have d1:mZ (gU (aa 1) (ae (.tuple [.int 1,.int 1])) sF) [some (.ref 1),some (pI (t:Nat)),some (.ref (Xz.length+11)),none,none,none,none,none,none,none] (bk e N (Xz++[AO.inst 740 [some (.ref (Xz.length+1+11)),some (.dat (Dh 0))],AO.idict []]))=some (.ref (Xz.length+2+11),bk e N (R3 Xz [] 0 [(t,2)])):=by
  show some (PV.ref ((Xz++[AO.inst 740 [some (.ref (Xz.length+1+11)),some (.dat (Dh 0))],AO.idict []]).length+11),bk e N ((Xz++[AO.inst 740 [some (.ref (Xz.length+1+11)),some (.dat (Dh 0))],AO.idict []])++[AO.idict (dI [(t,2)])]))=_
  simp[R3,dI]
 rw[aS (dJ d1)]
 dsimp only[RG]
 rcases T.is with rfl | hn
 ·refine mH (L 200 none none none none none none (by decide)) fun P l a1 a2 a3=>?_
  refine⟨P,?_,a2,a3⟩
  rw[show fT [t]=[(t,2)] from rfl] at a1
  rw[aS a1]
  rfl
 ·refine Pt (FY (e:=e) (Xz:=Xz) (t:=t) h2 hn T.nd T.few (o4:=none) (o5:=none) (o6:=none) (o7:=none) (o8:=none) (o9:=none)) fun l0 l1 l2 l3 l4 l5 b1=>?_
  refine mH (L 199 l0 l1 l2 l3 l4 l5 (by decide)) fun P l a1 a2 a3=>?_
  refine⟨P,?_,a2,a3⟩
  have w1:eH zZ ug 200 (fS Xz t [none,none,none,none,none,none]) (bk e N (R3 Xz [] 0 [(t,2)]))=some (.next,fS Xz t l,bk e N (R3 Xz P (df N ts 0) [])):=by
   exact(K4 CY b1).trans a1
  rw[aS w1]
  rfl
end
theorem xB(I:Sl→Prop)(f:QC→QC)(h:∀ x∈xs,∀ ρ,I ρ→∃ X6,g (.dat x) ρ=some X6∧I X6∧F X6 Xx=some (.dat (f x),Xx))(hl:xs.length≤1000)(hI:I ρ):
  ∃ Yg,eT (cA xs) g dn (cq F) xs.length 0 ρ [] Xx=some (Yg,(xs.map f).map .dat,Xx):=by
 obtain⟨Yg,XN,XK,h1,h2,h3,h4⟩:=mj (XR:=cA xs) (g:=g) (t:=dn) (F:=cq F) (n:=xs.length) (fun j=>.dat (xs[j]?.getD .none)) (fun j ρ acc s=>I ρ∧acc=((xs.take j).map f).map .dat∧s=Xx)
  (fun j ρ acc s hj _=>by simp[cA,hj]) (fun ρ acc s _=>by simp[cA])
  (fun j ρ acc s hj q=>by
   refine iL (q) fun q1 XW XX=>?_
   subst XW XX
   refine d9 (h xs[j] (Rt hj) ρ q1) fun X6 a1 a2 a3=>?_
   have e1:xs[j]?.getD .none=xs[j]:=by simp[hj]
   rw[e1]
   refine⟨X6,a1,.inr ⟨s,X6,((xs.take j).map f).map .dat++[.dat (f xs[j])],s,rfl,?_,a2,?_,rfl⟩⟩
   ·unfold cq
    rw[a3]
    dsimp only[pP]
    rw[if_pos (by simp;exact zX)]
   ·rw[← Ro hj,RZ,RZ]
    rfl) xs.length 0 ρ [] Xx (by rfl) ⟨hI,rfl,rfl⟩
 rw[Sn] at h3
 subst h3 h4
 exact⟨Yg,h1⟩
theorem kH:∀ l:List QC,gM (l.map .dat)=some l:=by
 intro a_
 induction a_ with
 | nil =>
  exact rfl
 | cons a l ih =>
  rw[QX,kz,ih];rfl
noncomputable def z9(g:Int→QC)(x:QC):QC:=((u8 x).map g).getD x
theorem pi (I:Sl→Prop) (f:QC→QC) (hs:src ρ Xx=some (cA xs,xs.length,Xx)) (hI:I (ib nl fr ρ))
  (h:∀ x∈xs,∀ ρ,I ρ→∃ X6,g (.dat x) ρ=some X6∧I X6∧F X6 Xx=some (.dat (f x),Xx)) (hl:xs.length≤1000):fV src nl fr g dn (cq F) ρ Xx=some (.dat (.list (xs.map f)),Xx):=by
 refine bM (xB I f h hl hI) fun Yg h1=>?_
 unfold fV
 rw[hs]
 dsimp only[p3,QQ]
 rw[h1]
 dsimp only
 rw[kH]
 dsimp only
 rw[if_pos (by simp[small];exact nA)]
theorem gB(h:f ρ Xx=some (.dat (.list xs),Xx)∨f ρ Xx=some (.dat (.tuple xs),Xx))(hl:xs.length≤1000):cF f ρ Xx=some (cA xs,xs.length,Xx):=by
 have sm:small xs=true:=by simp[small];lia
 unfold cF
 rcases h with h | h<;>rw[h]<;>dsimp only[pP,pD]<;>rw[if_pos sm]
theorem Aa(h:f ρ Xx=some (.dat (.list xs),Xx))(hl:xs.length≤1000):gd (ac f af) ρ Xx=some (.dat (.tuple xs),Xx):=by
 unfold gd
 rw[cP h]
 dsimp only[pP,dh,pD,QQ]
 rw[if_pos (by simp[small];lia)]
noncomputable def eY(P:Wt):List Nat:=[4,5,7].filter fun u=>bE P u≠0
theorem uS(r:PR P):k∈P.map (·.1)↔bE P k≠0:=by
 constructor
 ·intro h
  have:=rI.mpr h
  obtain⟨f,hf⟩:=Qy.mp this
  unfold bE
  rw[hf]
  exact r.nz k f hf
 ·intro h
  refine rI.mp (Qy.mpr ?_)
  unfold bE at h
  cases e:eu P k with
  | none=>rw[e] at h;exact absurd rfl h
  | some f=>exact⟨f,rfl⟩
theorem AZ(r:PR P):kq ((dI P).map (·.1))=(eY P).map fun u:Nat=>(u:Int):=by
 refine(uy ?_ ?_).symm
 ·rw[show(dI P).map (·.1)=(P.map (·.1)).map fun u:Nat=>(u:Int) from by simp[dI]]
  refine List.Perm.map _ ?_
  refine(List.perm_ext_iff_of_nodup ?_ r.nd).mpr fun k=>?_
  ·exact Sr RY (by decide)
  ·rw[uS r]
   unfold eY
   rw[RH]
   constructor
   ·intro h;simpa using h.2
   ·intro h
    have:=r.key k ((uS r).mpr h)
    exact⟨by simpa using this,by simpa using h⟩
 ·have h:List.Pairwise (·≤·) ((([4,5,7]:List Nat)).map fun u:Nat=>(u:Int)):=by decide
  exact h.sublist (RY.map _)
theorem pj(P:Wt):(eY P).length≤3:=Q6 _ [4,5,7]
section
variable {e:En} {N:List Nd} {Xz:List AO} {s:Int} {t:Nat} {ρ:Sl} {f:EF} {i m:Nat} {P:Wt} {c:Int}
noncomputable abbrev kD(P:Wt):List QC:=(eY P).map fun u:Nat=>.int (u:Int)
theorem Bx(F:FA Xz i m P c)(h:f ρ (bk e N Xz)=some (.ref (m+11),bk e N Xz)):je (ac f af) ρ (bk e N Xz)=some (.dat (.list (kD P)),bk e N Xz):=by
 unfold je
 rw[cP h]
 dsimp only[pP,dh,d7,QQ]
 rw[show(bk e N Xz)[m+11]?=some (.idict (dI P)) from F.dict]
 dsimp only
 have:=F.pr.len
 rw[if_pos (by simp[dI];exact nC),AZ F.pr]
 simp
theorem ym(F:FA Xz i m P c)(h:f ρ (bk e N Xz)=some (.ref (i+11),bk e N Xz)):aE 740 0 f ρ (bk e N Xz)=some (.ref (m+11),bk e N Xz) :=
 jI (i:=i+11) h (by rw[show(bk e N Xz)[i+11]?=_ from F.inst];rfl)
theorem yn(F:FA Xz i m P c)(h:f ρ (bk e N Xz)=some (.ref (i+11),bk e N Xz)):aE 740 1 f ρ (bk e N Xz)=some (.dat (Dh c),bk e N Xz) :=
 jI (i:=i+11) h (by rw[show(bk e N Xz)[i+11]?=_ from F.inst];rfl)
theorem K9(F:FA Xz i m P c)(hz:bE P u≠0)(h:f ρ (bk e N Xz)=some (.ref (m+11),bk e N Xz))(hg:g ρ (bk e N Xz)=some (pI (u:Nat),bk e N Xz))(hu:u<100):aq f g ρ (bk e N Xz)=some (.dat (Dh (bE P u)),bk e N Xz):=by
 refine gW h hg ?_
 unfold iW
 rw[if_pos (by lia)]
 dsimp only[pD,ou]
 rw[show(bk e N Xz)[m+11]?=some (.idict (dI P)) from F.dict]
 dsimp only
 rw[pg]
 unfold bE at hz ⊢
 cases e:eu P u with
 | none=>rw[e] at hz;exact absurd rfl hz
 | some f=>rfl
theorem La(h:x∈kD P):∃ u:Nat,x=.int (u:Int)∧bE P u≠0∧tri u=true:=by
 refine aH (QL.mp h) fun u hu XX=>?_
 subst XX
 have:=RH.mp hu
 exact⟨u,rfl,by simpa using this.2,by have:=this.1;simp at this;exact dm.mpr this⟩
theorem Eh(h:tri u=true):u<100:=by have:=dm.mp h;lia
noncomputable abbrev pn(c:Nat→Int):List QC:=(([4,5,7]:List Nat).filter fun u=>c u≠0).map fun u:Nat=>.tuple [.int (u:Int),Dh (c u)]
theorem By(F:FA Xz i m P c):e8 [.ref (i+11)] (bk e N Xz)=some (.dat (.tuple (pn (bE P))),bk e N Xz):=by
 show aY (lX [some (.ref (i+11))] (bk e N Xz))=_
 unfold lX
 have a1:=gB (.inl (Bx (e:=e) (N:=N) (f:=aE 740 0 (aa 0)) (ρ:=[some (.ref (i+11))]) F (ym F rfl))) (by have:=pj P;simp;exact nA)
 have a2:=pi (nl:=1) (fr:=[0]) (g:=bZ 0) (F:=bp (ac (aa 0) (ac (aq (aE 740 0 (aa 1)) (aa 0)) af))) (fun ρ=>∃ o,ρ=[o,some (.ref (i+11))]) (z9 fun k=>.tuple [.int k,Dh (bE P k.toNat)]) a1 ⟨none,rfl⟩ (fun x hx ρ z=>bM z fun o q=>by
  refine d9 (La hx) fun u XW hu ht=>?_
  subst XW
  subst q
  refine⟨_,rfl,⟨_,rfl⟩,?_⟩
  have b1:=K9 (g:=aa 0) (e:=e) (N:=N) (ρ:=[some (pI (u:Nat)),some (.ref (i+11))]) F hu (ym (f:=aa 1) F rfl) rfl (Eh ht)
  show bp _ [some (pI (u:Nat)),some (.ref (i+11))] (bk e N Xz)=_
  unfold bp
  rw[cC rfl (cP b1)]
  rfl) (by have:=pj P;simp;exact nA)
 rw[bx (cp (Aa a2 (by have:=pj P;simp;exact nA)))]
 refine congrArg (fun l=>some (PV.dat (.tuple l),bk e N Xz)) ?_
 rw[Ra]
 rfl
theorem It(c:Int):Q (-(be c).1) (be c).2=Dh (-c):=by
 by_cases h:c % 2=0
 ·rw[show be c=(c / 2,1) from if_pos h]
  show _=Qp (be (-c))
  rw[show(be (-c))=(-c / 2,1) from if_pos ND]
  show Q (-(c / 2)) 1=Q (-c / 2) 1
  rw[show -(c / 2) =-c / 2 from by lia]
 ·rw[show be c=(c,2) from if_neg h]
  show _=Qp (be (-c))
  rw[show(be (-c))=(-c,2) from if_neg zh]
noncomputable abbrev s5(c:Nat→Int)(k:Int):QC:=.tuple [.tuple (pn c),.str "=",Dh (-k)]
theorem M3(F:FA Xz i m P c):hV [.ref (i+11),.dat (.str "=")] (bk e N Xz)=some (.dat (s5 (bE P) c),bk e N Xz):=by
 show aY (nF [some (.ref (i+11)),some (.dat (.str "="))] (bk e N Xz))=_
 unfold nF
 have a1:aC 740 e8 (aa 0) af [some (.ref (i+11)),some (.dat (.str "="))] (bk e N Xz)=some (.dat (.tuple (pn (bE P))),bk e N Xz) :=
  (bn (i:=i+11) (ps:=[]) (XA:=bk e N Xz) rfl (by rw[show(bk e N Xz)[i+11]?=_ from F.inst];rfl) rfl).trans (By F)
 have a2:aI vD (ac (aE 740 1 (aa 0)) af) [some (.ref (i+11)),some (.dat (.str "="))] (bk e N Xz)=some (.dat (Dh (-c)),bk e N Xz):=by
  rw[bO (cP (yn F rfl)),MV,It]
 have a3:bp (ac (aC 740 e8 (aa 0) af) (ac (aa 1) (ac (aI vD (ac (aE 740 1 (aa 0)) af)) af))) [some (.ref (i+11)),some (.dat (.str "="))] (bk e N Xz)=some (.dat (s5 (bE P) c),bk e N Xz):=by
  unfold bp
  rw[cC a1 (cC rfl (cP a2))]
  rfl
 rw[bx (cp a3)]
 rfl
end
theorem Ei:∀ {ts:List Nat},(∀ k∈ts,∃ u h,Mo N s k u h∧ff N k=(u,h)∧In 1000 h)→∀ y,In (1000*(ts.length:Int)) (df N ts y):=by
 intro a_
 induction a_ with
 | nil =>
  intro _ y
  simp[df,In]
 | cons a ts ih =>
  intro h y
  refine cps fun G kG=>?_
  obtain⟨u,g,_,h1,h2⟩:=h a (.head _)
  have ih:=ih (fun k hk=>h k (.tail _ hk)) y
  refine kG ?_
  simp only[df,QX,Tk,UV] at ih ⊢
  rw[h1]
  unfold In at *
  dsimp only
  split<;>lia
section
variable {e:En} {N:List Nd} {Xz:List AO} {s:Int} {P P2:Wt} {c c2:Int}
noncomputable abbrev R6(Xz:List AO)(P:Wt)(c:Int)(P2:Wt)(c2:Int):List AO:=R3 (R3 Xz P c []) P2 c2 []
theorem FZ(r:PR P):FA (R6 Xz P c P2 c2) Xz.length (Xz.length+1) P c:=⟨by simp,by simp,r⟩
theorem Ab(r:PR P2):FA (R6 Xz P c P2 c2) (Xz.length+3) (Xz.length+4) P2 c2:=⟨by simp,by simp,r⟩
theorem Iu(P':Wt):(R6 Xz P c P2 c2).set (Xz.length+1) (AO.idict (dI P'))=R6 Xz P' c P2 c2:=by simp[R6,R3,Q2]
theorem Iv(c':Int):(R6 Xz P c P2 c2).set (Xz.length) (AO.inst 740 [some (.ref (Xz.length+1+11)),some (.dat (Dh c'))])=R6 Xz P c' P2 c2:=by simp[R6,R3,Q2]
theorem rL(r:PR P)(h:bE P u≠0):tri u=true:=dm.mpr (r.key u ((uS r).mpr h))
theorem Ej(r1:PR P)(r2:PR P2)(b1:∀ u,In 10000 (bE P u))(b2:∀ u,In 10000 (bE P2 u))(b3:In 10000 c)(b4:In 10000 c2):
  ∃ P',nZ [.ref (Xz.length+11),.ref (Xz.length+3+11),.dat (Dh (-2))] (bk e N (R6 Xz P c P2 c2))=some (.dat .none,bk e N (R6 Xz P' (c - c2) P2 c2))∧PR P'∧∀ u,bE P' u=bE P u - bE P2 u:=by
 revert e N Xz P P2 c c2
 refine @jV _ _ _ _ _ _ _ _ nI ?_
 generalize q1 _=e,q2 _=N,q3 _=Xz,q4 _=P,q5 _=P2,q6 _=c,qe _=c2
 intro r1 r2 b1 b2 b3 b4
 have BD:∀ {x:Int},In 10000 x→Bd x:=fun {x} hx=>⟨by have:=hx.1;exact zE,by have:=hx.2;exact RC (by assumption) (by decide)⟩
 have BN:∀ {x:Int},In 10000 x→Bd (-x):=fun {x} hx=>⟨by have:=hx.2;lia,by have:=hx.1;lia⟩
 show ∃ P',aY (rz [some (.ref (Xz.length+11)),some (.ref (Xz.length+3+11)),some (.dat (Dh (-2))),none] (bk e N (R6 Xz P c P2 c2)))=_∧_
 unfold rz
 rw[aS (cr (bB (aV (r:=.bool false) rfl rfl rfl)))]
 refine cps fun G kG=>?_
 have a1:=gB (.inl (Bx (e:=e) (N:=N) (f:=aE 740 0 (aa 1)) (ρ:=[some (.ref (Xz.length+11)),some (.ref (Xz.length+3+11)),some (.dat (Dh (-2))),none]) (Ab (Xz:=Xz) (P:=P) (c:=c) (c2:=c2) r2) (ym (Ab r2) rfl))) (by have:=pj P2;simp;exact nA)
 have Yo:(eY P2).Nodup:=Sr RY (by decide)
 obtain⟨Yg,XK,h3,⟨P',⟨o,h4⟩,h5,h6,h7⟩⟩:=oi (XR:=cA (kD P2)) (g:=bZ 3) (body:=ah (cM (aC 740 eZ (aa 0) (ac (aa 3) (ac (aI fH (ac (aq (aE 740 0 (aa 1)) (aa 3)) (ac (aa 2) af))) af)))) az) (n:=(kD P2).length)
  (fun j=>pI (((eY P2)[j]?.getD 0:Nat):Int)) (fun j ρ Xx=>∃ P',(∃ o,ρ=[some (.ref (Xz.length+11)),some (.ref (Xz.length+3+11)),some (.dat (Dh (-2))),o])∧Xx=bk e N (R6 Xz P' c P2 c2)∧PR P'∧∀ u,bE P' u=bE P u - if u∈(eY P2).take j then bE P2 u else 0)
  (fun j ρ Xx hj h=>by rw[Qs] at hj;simp[cA,hj]) (fun ρ Xx h=>by simp[cA])
  (fun j ρ Xx hj h=>by
   obtain⟨P',⟨o,rfl⟩,rfl,q1,q2⟩:=h
   rw[Qs] at hj
   have e1:(eY P2)[j]?.getD 0=(eY P2)[j]:=by simp[hj]
   rw[e1]
   generalize hx:(eY P2)[j]=x
   have hxm:x∈eY P2:=hx▸Rt hj
   have hx0:bE P2 x≠0:=by simpa using (RH.mp hxm).2
   have hxt:=rL r2 hx0
   have hnot:x∉(eY P2).take j:=fun q=>by
    obtain⟨i,hi,q⟩:=Tf.mp q
    have:=(Sj Yo).mp (q.trans hx.symm)
    lia
   have c1:bE P' x=bE P x:=by rw[q2,if_neg hnot];lia
   have F:=FZ (Xz:=Xz) (c:=c) (P2:=P2) (c2:=c2) q1
   have m1:aC 740 eZ (aa 0) (ac (aa 3) (ac (aI fH (ac (aq (aE 740 0 (aa 1)) (aa 3)) (ac (aa 2) af))) af)) [some (.ref (Xz.length+11)),some (.ref (Xz.length+3+11)),some (.dat (Dh (-2))),some (pI (x:Nat))] (bk e N (R6 Xz P' c P2 c2))=some (.dat .none,bk e N (R6 Xz (rJ P' x (-bE P2 x)) c P2 c2)):=by
    refine(bn (i:=Xz.length+11) (ps:=[pI (x:Nat),.dat (Dh (-bE P2 x))]) (XA:=bk e N (R6 Xz P' c P2 c2)) rfl (by rw[show(bk e N (R6 Xz P' c P2 c2))[Xz.length+11]?=_ from F.inst];rfl) (cC rfl (cP ((bO (cC (K9 (Ab r2) hx0 (ym (Ab r2) rfl) rfl (Eh hxt)) (cP rfl))).trans (G6 (BD (b2 x)) _))))).trans ?_
    rw[sZ F (dm.mp hxt) (by rw[c1];exact BD (b1 x)) (BN (b2 x)),Iu]
   have ha:=q1.add (dm.mp hxt) (-bE P2 x)
   refine⟨_,_,_,.next,rfl,(aS (nP m1)).trans rfl,.inl rfl,_,⟨some (pI (x:Nat)),rfl⟩,rfl,ha.1,fun u=>?_⟩
   rw[ha.2,q2,← Ro hj,hx]
   by_cases hu:x=u
   ·subst hu;simp[hnot];rfl
   ·have hu':¬ u=x:=fun q=>hu q.symm
    simp[hu,hu'])
  (kD P2).length 0 _ _ (by rfl) ⟨P,⟨none,rfl⟩,rfl,r1,fun u=>by simp⟩
 have h8:dM (cF (je (ac (aE 740 0 (aa 1)) af))) (bZ 3) (ah (cM (aC 740 eZ (aa 0) (ac (aa 3) (ac (aI fH (ac (aq (aE 740 0 (aa 1)) (aa 3)) (ac (aa 2) af))) af)))) az) [some (.ref (Xz.length+11)),some (.ref (Xz.length+3+11)),some (.dat (Dh (-2))),none] (bk e N (R6 Xz P c P2 c2))=some (.next,Yg,XK):=by
  unfold dM
  rw[a1]
  exact h3
 have hco:∀ u,bE P' u=bE P u - bE P2 u:=fun u=>by
  rw[h7 u,U6 (by simp)]
  by_cases hu:u∈eY P2
  ·rw[if_pos hu]
  ·rw[if_neg hu]
   have:bE P2 u=0:=QG fun q=>hu (by
    have ht:=dm.mp (rL r2 q)
    unfold eY
    rw[RH]
    exact⟨by simpa using ht,by simpa using q⟩)
   lia
 refine kG ?_
 refine⟨P',?_,h6,hco⟩
 subst h4 h5
 rw[aS h8]
 have F:=FZ (Xz:=Xz) (c:=c) (P2:=P2) (c2:=c2) h6
 have s1:cJ 740 1 (aI i5 (ac (aE 740 1 (aa 0)) (ac (aI fH (ac (aE 740 1 (aa 1)) (ac (aa 2) af))) af))) (aa 0) [some (.ref (Xz.length+11)),some (.ref (Xz.length+3+11)),some (.dat (Dh (-2))),o] (bk e N (R6 Xz P' c P2 c2))=some (.next,[some (.ref (Xz.length+11)),some (.ref (Xz.length+3+11)),some (.dat (Dh (-2))),o],bk e N (R6 Xz P' (c - c2) P2 c2)):=by
  refine Ee (i:=Xz.length+11) ((bO (cC (yn F rfl) (cP ((bO (cC (yn (Ab r2) rfl) (cP rfl))).trans (G6 (BD b4) _))))).trans (zq (BD b3) (BN b4) _)) rfl ?_
  unfold lb
  dsimp only[QQ]
  rw[show(bk e N (R6 Xz P' c P2 c2))[Xz.length+11]?=_ from F.inst]
  exact congrArg (fun r=>some (bk e N r)) (Iv (Xz:=Xz) (P:=P') (c:=c) (P2:=P2) (c2:=c2) (c + -c2))
 rw[aS s1]
 rfl
theorem s7{c d:Nat→Int}(h:∀ u,tri u=true→c u=d u):pn c=pn d:=by
 unfold pn
 simp only[US,List.filter_nil,h 4 rfl,h 5 rfl,h 7 rfl]
 refine Sg fun u hu=>?_
 have:tri u=true:=by
  refine dm.mpr ?_
  split at hu<;>split at hu<;>split at hu<;>simp at hu<;>lia
 rw[h u this]
theorem Ad(h2:N.length≤1000)(hu:z6 N)(T1:TS N s a t1)(T2:TS N s b t2)(hb:fb ρ (bk e N Xz)=some (.ref 1,bk e N Xz))(hf:f ρ (bk e N Xz)=some (pI (a:Nat),bk e N Xz))(hg:g ρ (bk e N Xz)=some (pI (b:Nat),bk e N Xz)):
  ∃ ext,aI hV (ac (aI gk (ac fb (ac f (ac g af)))) (ac (ae (.str "=")) af)) ρ (bk e N Xz)=some (.dat (s5 (fun u=>df N t1 u - df N t2 u) (df N t1 0 - df N t2 0)),bk e N (Xz++ext)):=by
 refine cps fun G kG=>?_
 refine d9 (Eg (e:=e) (Xz:=Xz) h2 hu T1) fun P1 a1 a2 a3=>?_
 refine d9 (Eg (e:=e) (Xz:=R3 Xz P1 (df N t1 0) []) h2 hu T2) fun P2 b1 b2 b3=>?_
 have i1:∀ y,In 10000 (df N t1 y):=fun y=>by have:=Ei T1.mo y;have:=T1.few;unfold In at *;lia
 have i2:∀ y,In 10000 (df N t2 y):=fun y=>by have:=Ei T2.mo y;have:=T2.few;unfold In at *;lia
 have ic:∀ {P:Wt} {g:Nat→Int},PR P→(∀ u,tri u=true→bE P u=g u)→(∀ y,In 10000 (g y))→∀ u,In 10000 (bE P u):=fun {P g} r h q u=>by
  by_cases hz:bE P u=0
  ·rw[hz];unfold In;decide
  ·rw[h u (rL r hz)];exact q u
 refine d9 (Ej (e:=e) (N:=N) (Xz:=Xz) a2 b2 (ic a2 a3 i1) (ic b2 b3 i2) (i1 0) (i2 0)) fun P' c1 c2 c3=>?_
 have d1:gk [.ref 1,pI (a:Nat),pI (b:Nat)] (bk e N Xz)=some (.ref (Xz.length+11),bk e N (R6 Xz P' (df N t1 0 - df N t2 0) P2 (df N t2 0))):=by
  show aY (lq [some (.ref 1),some (pI (a:Nat)),some (pI (b:Nat)),none] (bk e N Xz))=_
  unfold lq
  rw[aS (dJ ((bO (ps:=[.ref 1,pI (a:Nat)]) rfl).trans a1))]
  dsimp only[RG]
  have hl:(R3 Xz P1 (df N t1 0) []).length=Xz.length+3:=by simp
  rw[hl] at b1
  have m1:aC 740 nZ (aa 3) (ac (aI m7 (ac (aa 0) (ac (aa 2) af))) (ac (ae (.tuple [.int (-1),.int 1])) af)) [some (.ref 1),some (pI (a:Nat)),some (pI (b:Nat)),some (.ref (Xz.length+11))] (bk e N (R3 Xz P1 (df N t1 0) []))=some (.dat .none,bk e N (R6 Xz P' (df N t1 0 - df N t2 0) P2 (df N t2 0))) :=
   (bn (i:=Xz.length+11) (ps:=[.ref (Xz.length+3+11),.dat (Dh (-2))]) (XA:=bk e N (R6 Xz P1 (df N t1 0) P2 (df N t2 0))) rfl (by rw[show(bk e N (R3 Xz P1 (df N t1 0) []))[Xz.length+11]?=_ from(CX a2).inst];rfl) (cC ((bO rfl).trans b1) rfl)).trans c1
  rw[aS (nP m1)]
  rfl
 refine kG ?_
 refine⟨[AO.inst 740 [some (.ref (Xz.length+1+11)),some (.dat (Dh (df N t1 0 - df N t2 0)))],AO.idict (dI P'),AO.idict (dI [])]++[AO.inst 740 [some (.ref (Xz.length+3+1+11)),some (.dat (Dh (df N t2 0)))],AO.idict (dI P2),AO.idict (dI [])],?_⟩
 rw[bO (cC ((bO (cC hb (cC hf (cP hg)))).trans d1) rfl),M3 (FZ c2)]
 have ec:pn (bE P')=pn (fun u=>df N t1 u - df N t2 u):=s7 fun u ht=>by rw[c3,a3 u ht,b3 u ht]
 unfold s5
 rw[ec]
 simp[R6,R3]
end
noncomputable abbrev Tm:=List (Nat×(Int×Int))
noncomputable abbrev tD(T:Tm):List QC:=T.map fun x=>.tuple [.int (x.1:Int),Qp x.2]
noncomputable abbrev b6(T:Tm)(b:Int×Int):QC:=.tuple [.tuple (tD T),.str "=",Qp b]
noncomputable def pY(T:Tm)(f:Int×Int):Tm:=T.map fun x=>(x.1,gw x.2 f)
noncomputable def rM(a b:Int):Int:=(a.natAbs:Int).fdiv (Rv a.natAbs b.natAbs)*b.natAbs
noncomputable def jJ(T:Tm):Int:=T.foldl (fun c x=>rM c x.2.2) 1
noncomputable def j5(c:Int)(T:Tm):Int:=T.foldl (fun s x=>(Rv s.natAbs (x.2.1*c.fdiv x.2.2).natAbs:Int)) 0
noncomputable def j6(T:Tm):Int×Int:=if j5 (jJ T) T=0 then(1,1) else fF (jJ T) (j5 (jJ T) T)
noncomputable def OA:Tm→Bool
 | []=>false
 | x::_=>decide (x.2.1<0)
noncomputable def nN(T:Tm)(b:Int×Int):Tm×(Int×Int) :=
 if OA (pY T (j6 T)) then(pY (pY T (j6 T)) (-1,1),gw (gw b (j6 T)) (-1,1)) else(pY T (j6 T),gw b (j6 T))
theorem Bz(h:0<b):(fF a b).1.natAbs≤a.natAbs∧0<(fF a b).2∧(fF a b).2≤b:=by
 have hg:0<Rv a.natAbs b.natAbs:=Nat.gcd_pos_of_pos_right _ zM
 have hd:(Rv a.natAbs b.natAbs:Int)∣b:=Int.ofNat_dvd_left.mpr (TA ..)
 unfold fF
 simp only[show ¬ b<0 from by omega,if_false]
 rw[Re _ (by omega),Re _ (by omega)]
 refine⟨Sw ..,Int.ediv_pos_of_pos_of_dvd h (by omega) hd,?_⟩
 exact Int.ediv_le_self _ (U9 h)
theorem Iw(h1:0<x.2)(h2:0<y.2):(gw x y).1.natAbs≤x.1.natAbs*y.1.natAbs∧0<(gw x y).2∧(gw x y).2≤x.2*y.2:=by
 unfold gw
 split
 ·rename_i h
  rw[h.1,h.2]
  refine⟨?_,?_,?_⟩
  ·show(x.1*y.1).natAbs≤_
   rw[RX];exact QZ _
  ·show(0:Int)<1;decide
  ·show(1:Int)≤1*1;decide
 ·have:=Bz (a:=x.1*y.1) (S9 h1 h2)
  rw[RX] at this
  exact this
structure Sz (M D:Nat) (x:Int×Int):Prop where
 top:x.1.natAbs≤M
 bot:0<x.2∧x.2≤D
theorem Sz.sm'(h:Sz M D x)(hM:M<2 ^ 60)(hD:D<2 ^ 60):Sm x:=⟨by have:=h.top;omega,h.bot.1,by have:=h.bot.2;omega⟩
theorem Sz.sm(h:Sz M D x)(hM:M≤10000)(hD:D≤10000):Sm x:=h.sm' (Sa hM (by decide)) (Sa hD (by decide))
theorem Sz.mul(h:Sz M D x)(h':Sz M' D' y):Sz (M*M') (D*D') (gw x y):=by
 have b:=Iw h.bot.1 h'.bot.1
 refine⟨QH b.1 (SS h.top h'.top),b.2.1,Rk b.2.2 ?_⟩
 have:=TB h.bot.2 h'.bot.2 (by have:=h'.bot.1;omega) (by omega:(0:Int)≤(D:Int))
 rw[T4]
 exact this
theorem Lb(h:Sz M D x)(h':Sz M' D' y)(h1:M≤10000)(h2:M'≤10000)(h3:D*D'<99)(hD:D≤98)(hD':D'≤98)(Xx:St):fH [.dat (Qp x),.dat (Qp y)] Xx=some (.dat (Qp (gw x y)),Xx):=by
 refine CS (h.sm h1 (by omega)) (h'.sm h2 (by omega)) ?_ Xx
 have:=TB h.bot.2 h'.bot.2 (by have:=h'.bot.1;omega) (by omega:(0:Int)≤(D:Int))
 have q:((D*D':Nat):Int)<99:=by exact_mod_cast h3
 rw[T4] at q
 omega
theorem kP (I:Nat→Sl→St→Prop) (hs:src ρ Xx=some (cA xs,xs.length,Xx)) (h0:I 0 ρ Xx)
  (step:∀ j (hj:j<xs.length) ρ Xx,I j ρ Xx→∃ X6 X7 XB fl,g (.dat xs[j]) ρ=some X6∧body X6 Xx=some (fl,X7,XB)∧(fl=.next∨fl=.cont)∧I (j+1) X7 XB) :
  ∃ Yg XK,dM src g body ρ Xx=some (.next,Yg,XK)∧I xs.length Yg XK:=by
 obtain⟨Yg,XK,h1,h2⟩:=oi (XR:=cA xs) (g:=g) (body:=body) (n:=xs.length) (fun j=>.dat (xs[j]?.getD .none)) I (fun j ρ Xx hj _=>by simp[cA,hj]) (fun ρ Xx _=>by simp[cA])
  (fun j ρ Xx hj h=>by
   have e1:xs[j]?.getD .none=xs[j]:=by simp[hj]
   rw[e1]
   exact step j hj ρ Xx h) xs.length 0 ρ Xx (by omega) h0
 refine⟨Yg,XK,?_,h2⟩
 unfold dM
 rw[hs]
 exact h1
section
variable {T:Tm} {b f:Int×Int} {Xx:St}
theorem Ae(hl:T.length≤100)(hT:∀ x∈T,Sz M D x.2)(hb:Sz 10000 D b)(hf:Sz M' D' f)(h1:M≤10000)(h2:M'≤10000)(h3:D*D'<99)(hD:D≤98)(hD':D'≤98):
  lu [.dat (b6 T b),.dat (Qp f)] Xx=some (.dat (b6 (pY T f) (gw b f)),Xx):=by
 revert T b f Xx M D M' D'
 refine @mG _ _ _ _ _ _ _ _ _ nI ?_
 generalize q1 _=T,q2 _=b,q3 _=f,q4 _=Xx,q5 _=M,q6 _=D,q7 _=M',qe _=D'
 intro hl hT hb hf h1 h2 h3 hD hD'
 show aY (oV [some (.dat (b6 T b)),some (.dat (Qp f)),none,none,none,none] Xx)=_
 unfold oV
 have u1:gC [2,3,4] (aa 0) [some (.dat (b6 T b)),some (.dat (Qp f)),none,none,none,none] Xx=some (.next,[some (.dat (b6 T b)),some (.dat (Qp f)),some (.dat (.tuple (tD T))),some (.dat (.str "=")),some (.dat (Qp b)),none],Xx):=rfl
 rw[aS u1]
 have a1:=gB (f:=aa 2) (ρ:=[some (.dat (b6 T b)),some (.dat (Qp f)),some (.dat (.tuple (tD T))),some (.dat (.str "=")),some (.dat (Qp b)),none]) (Xx:=Xx) (.inr rfl) (by rw[Qs];omega)
 have a2:=pi (nl:=2) (fr:=[1]) (g:=eG [0,1]) (F:=bp (ac (aa 0) (ac (aI fH (ac (aa 1) (ac (aa 2) af))) af))) (fun ρ=>∃ o o',ρ=[o,o',some (.dat (Qp f))]) (fun x=>match x with
  | .tuple [k,.tuple [.int p,.int q]]=>.tuple [k,Qp (gw (p,q) f)]
  | _=>x) a1 ⟨none,none,rfl⟩ (fun x hx ρ z=>jW z fun o o' q=>by
   refine aH (QL.mp hx) fun y hy XX=>?_
   subst XX
   subst q
   refine⟨_,rfl,⟨_,_,rfl⟩,?_⟩
   unfold bp
   rw[cC rfl (cP ((bO rfl).trans (Lb (hT y hy) hf h1 h2 h3 hD hD' Xx)))]
   rfl) (by rw[Qs];omega)
 rw[aS (dJ (Aa a2 (by rw[Qs,Qs];omega)))]
 dsimp only[RG]
 have e1:(tD T).map (fun x=>match x with
  | .tuple [k,.tuple [.int p,.int q]]=>.tuple [k,Qp (gw (p,q) f)]
  | _=>x)=tD (pY T f):=by
  rw[tD,Ra,tD,pY,Ra]
  rfl
 rw[e1]
 have a3:bp (ac (aa 5) (ac (aa 3) (ac (aI fH (ac (aa 4) (ac (aa 1) af))) af))) [some (.dat (b6 T b)),some (.dat (Qp f)),some (.dat (.tuple (tD T))),some (.dat (.str "=")),some (.dat (Qp b)),some (.dat (.tuple (tD (pY T f))))] Xx=some (.dat (b6 (pY T f) (gw b f)),Xx):=by
  unfold bp
  rw[cC rfl (cC rfl (cP ((bO rfl).trans (Lb hb hf (by decide) h2 h3 hD hD' Xx))))]
  rfl
 rw[bx (cp a3)]
 rfl
theorem M4(h1:c=1∨c=2)(h2:q=1∨q=2):rl [pI c,pI q] Xx=some (pI (rM c q),Xx):=by
 have go:∀ c q:Int,(c=1∨c=2)→(q=1∨q=2)→aY (uD [some (pI c),some (pI q)] Xx)=some (pI (rM c q),Xx):=fun c q h1 h2=>by
  have ha:∀ x:Int,(x=1∨x=2)→jZ [.int x]=some (.int (x.natAbs:Int)):=fun x h=>by rcases h with rfl | rfl<;>rfl
  have e1:∀ (i:Nat) (x:Int),(x=1∨x=2)→[some (pI c),some (pI q)][i]?=some (some (pI x))→fh jZ (ac (aa i) af) [some (pI c),some (pI q)] Xx=some (pI (x.natAbs:Int),Xx):=fun i x h hi=>by
   simp only[fh,ac,aa,hi,af,kz,lP,RQ,ha x h,pP,dh,gK,Rh]
  unfold uD
  have d1:fu (.int (c.natAbs:Int)) (.int (Rv c.natAbs q.natAbs:Int))=some (.int ((c.natAbs:Int).fdiv (Rv c.natAbs q.natAbs:Int))):=by rcases h1 with rfl | rfl<;>rcases h2 with rfl | rfl<;>exact lz (by decide) (by decide)
  have d2:bR (.int ((c.natAbs:Int).fdiv (Rv c.natAbs q.natAbs:Int))) (.int (q.natAbs:Int))=some (.int (rM c q)):=by rcases h1 with rfl | rfl<;>rcases h2 with rfl | rfl<;>exact dP (by decide) (by decide)
  rw[bx (cp (aV (aV (e1 0 c h1 rfl) ((bO rfl).trans (CQ zV Xx)) d1) (e1 1 q h2 rfl) d2))]
  rfl
 exact go c q h1 h2
structure Hw (T:Tm) (b:Int×Int):Prop where
 few:T.length≤3
 top:∀ x∈T,x.2.1.natAbs≤8
 bot:∀ x∈T,x.2.2=1∨x.2.2=2
 bd:b.1.natAbs≤100∧0<b.2∧b.2≤6
theorem uT:∀ (T:Tm) (c:Int),c=1∨c=2→(∀ x∈T,x.2.2=1∨x.2.2=2)→T.foldl (fun c x=>rM c x.2.2) c=1∨T.foldl (fun c x=>rM c x.2.2) c=2:=by
 intro a_
 induction a_ with
 | nil =>
  intro c h _
  exact h
 | cons x T ih =>
  intro c h hT
  refine ih _ ?_ fun y hy=>hT y (.tail _ hy)
  show rM c x.2.2=1∨rM c x.2.2=2
  rcases h with rfl | rfl<;>rcases hT x (.head _) with e | e<;>rw[e]<;>decide
theorem Af{c:Int}(hc:c=1∨c=2):∀ (T:Tm) (s:Int),0≤s∧s≤16→(∀ x∈T,x.2.2=1∨x.2.2=2)→(∀ x∈T,x.2.1.natAbs≤8)→0≤T.foldl (fun s x=>(Rv s.natAbs (x.2.1*c.fdiv x.2.2).natAbs:Int)) s∧T.foldl (fun s x=>(Rv s.natAbs (x.2.1*c.fdiv x.2.2).natAbs:Int)) s≤16:=by
 intro a_
 induction a_ with
 | nil =>
  intro s h _ _
  exact h
 | cons x T ih =>
  intro s h hT hT2
  refine ih _ ⟨RE _,?_⟩ (fun y hy=>hT y (.tail _ hy)) fun y hy=>hT2 y (.tail _ hy)
  have h8:=hT2 x (.head _)
  have hq:(x.2.1*c.fdiv x.2.2).natAbs≤16:=by
   rw[RX]
   have:(c.fdiv x.2.2).natAbs≤2:=by rcases hc with rfl | rfl<;>rcases hT x (.head _) with e | e<;>rw[e]<;>decide
   have:=SS h8 this
   exact nA
  show(Rv s.natAbs (x.2.1*c.fdiv x.2.2).natAbs:Int)≤16
  by_cases hz:(x.2.1*c.fdiv x.2.2).natAbs=0
  ·rw[hz,VX,Int.natAbs_of_nonneg h.1];exact h.2
  ·have:=VO (VY hz) (TA s.natAbs (x.2.1*c.fdiv x.2.2).natAbs)
   exact Int.ofNat_le.mpr (QH this hq)
theorem Lc(h:Hw T b):Sz 2 16 (j6 T):=by
 have h1:=uT T 1 (.inl rfl) h.bot
 have h2:=Af (c:=jJ T) h1 T 0 (by decide) h.bot h.top
 unfold j6
 split
 ·exact⟨by show(1:Int).natAbs≤2;decide,by show(0:Int)<1∧(1:Int)≤16;decide⟩
 ·rename_i hz
  have h2':0≤j5 (jJ T) T∧j5 (jJ T) T≤16:=h2
  have h1':jJ T=1∨jJ T=2:=h1
  have:=Bz (a:=jJ T) (b:=j5 (jJ T) T) (by omega)
  exact⟨QH this.1 (Nat.le_of_lt_succ (zV h1')),this.2.1,Rk this.2.2 h2'.2⟩
theorem F0(h:Hw T b):lZ [.dat (b6 T b)] Xx=some (.dat (Qp (j6 T)),Xx):=by
 revert T b Xx
 refine @kT _ _ _ _ nI ?_
 generalize q1 _=T,q2 _=b,qe _=Xx
 intro h
 show aY (lY [some (.dat (b6 T b)),none,none,none,none] Xx)=_
 unfold lY
 have u1:oG [1,2] (ac (ae (.int 1)) (ac (ae (.int 0)) af)) [some (.dat (b6 T b)),none,none,none,none] Xx=some (.next,[some (.dat (b6 T b)),some (pI 1),some (pI 0),none,none],Xx):=rfl
 have hl:=h.few
 have src:∀ l,cF (aq (aa 0) (ae (.int 0))) (some (.dat (b6 T b))::l) Xx=some (cA (tD T),(tD T).length,Xx):=fun l=>gB (.inr rfl) (by rw[Qs];omega)
 rw[aS u1]
 obtain⟨Yg,XK,h1,h2⟩:=kP (g:=eG [3,4]) (body:=ah (bQ 1 (aI rl (ac (aa 1) (ac (aq (aa 4) (ae (.int 1))) af)))) az) (fun j ρ s=>∃ o o',ρ=[some (.dat (b6 T b)),some (pI (jJ (T.take j))),some (pI 0),o,o']∧s=Xx) (src [some (pI 1),some (pI 0),none,none]) ⟨none,none,rfl,rfl⟩ (fun j hj ρ s z=>cz z fun o o' q1 q2=>by
  subst q1 q2
  rw[Qs] at hj
  have e1:(tD T)[j]=.tuple [.int (T[j].1:Int),Qp T[j].2]:=by simp[tD]
  rw[e1]
  have hx:=h.bot T[j] (Rt hj)
  have hc:jJ (T.take j)=1∨jJ (T.take j)=2:=uT (T.take j) 1 (.inl rfl) fun x hx=>h.bot x (VA hx)
  refine⟨_,_,_,.next,rfl,(aS (dJ ((bO rfl).trans (M4 hc hx)))).trans rfl,.inl rfl,some (pI (T[j].1:Nat)),some (.dat (Qp T[j].2)),?_,rfl⟩
  rw[show jJ (T.take (j+1))=rM (jJ (T.take j)) T[j].2.2 from by unfold jJ;rw[← Ro hj,UA];rfl]
  rfl)
 obtain⟨o,o',q1,q2⟩:=h2
 subst q1 q2
 rw[aS h1,Qs,Sn]
 generalize hcc:jJ T=c
 have hc:c=1∨c=2:=hcc▸uT T 1 (.inl rfl) h.bot
 obtain⟨Yg,XK,h3,h4⟩:=kP (g:=eG [3,4]) (body:=ah (bQ 2 (aI lV (ac (aa 2) (ac (am bR (aq (aa 4) (ae (.int 0))) (am fu (aa 1) (aq (aa 4) (ae (.int 1))))) af)))) az) (fun j ρ s=>∃ o o',ρ=[some (.dat (b6 T b)),some (pI c),some (pI (j5 c (T.take j))),o,o']∧s=XK) (src [some (pI c),some (pI 0),o,o']) ⟨o,o',rfl,rfl⟩ (fun j hj ρ s z=>cz z fun o o' q1 q2=>by
  subst q1 q2
  rw[Qs] at hj
  have e1:(tD T)[j]=.tuple [.int (T[j].1:Int),Qp T[j].2]:=by simp[tD]
  rw[e1]
  have hx:=h.bot T[j] (Rt hj)
  have ht:=h.top T[j] (Rt hj)
  have hcd:(c.fdiv T[j].2.2).natAbs≤2:=by rcases hc with rfl | rfl<;>rcases hx with e | e<;>rw[e]<;>decide
  have hs:(T[j].2.1*c.fdiv T[j].2.2).natAbs≤16:=by
   rw[RX]
   have:=SS ht hcd
   assumption
  have m1:am bR (aq (aa 4) (ae (.int 0))) (am fu (aa 1) (aq (aa 4) (ae (.int 1)))) [some (.dat (b6 T b)),some (pI c),some (pI (j5 c (T.take j))),some (pI (T[j].1:Nat)),some (.dat (Qp T[j].2))] s=some (pI (T[j].2.1*c.fdiv T[j].2.2),s) :=
   aV rfl (aV rfl rfl (lz Km zV)) (dP zR zQ)
  refine⟨_,_,_,.next,rfl,(aS (dJ ((bO (cC rfl (cP m1))).trans (CQ (by omega) s)))).trans rfl,.inl rfl,some (pI (T[j].1:Nat)),some (.dat (Qp T[j].2)),?_,rfl⟩
  rw[show j5 c (T.take (j+1))=(Rv (j5 c (T.take j)).natAbs (T[j].2.1*c.fdiv T[j].2.2).natAbs:Int) from by unfold j5;rw[← Ro hj,UA];rfl]
  rfl)
 obtain⟨o,o',q1,q2⟩:=h4
 subst q1 q2
 rw[aS h3,Qs,Sn]
 have hb:=Af (c:=c) hc T 0 (by decide) h.bot h.top
 have hb':0≤j5 c T∧j5 c T≤16:=hb
 unfold j6
 rw[hcc]
 by_cases hz:j5 c T=0
 ·rw[if_pos hz,hz]
  rfl
 ·rw[if_neg hz]
  have t1:ao (am (aP fun a b=>a==b) (aa 2) (ae (.int 0))) [some (.dat (b6 T b)),some (pI c),some (pI (j5 c T)),o,o'] XK=some (false,XK) :=
   bB (aV (r:=.bool false) rfl rfl (by show some (QT (j5 c T==0))=_;rw[show(j5 c T==0)=false from by simpa using hz]))
  rw[bx (cp ((j4 t1).trans ((bO rfl).trans (tL hz O7 XK))))]
  rfl
theorem qq(h:Hw T b):jo [.dat (b6 T b)] Xx=some (.dat (b6 (nN T b).1 (nN T b).2),Xx):=by
 revert T b Xx
 refine @kT _ _ _ _ nI ?_
 generalize q1 _=T,q2 _=b,qe _=Xx
 intro h
 have hl:=h.few
 have hf:=Lc h
 have hT:∀ x∈T,Sz 8 6 x.2:=fun x hx=>⟨h.top x hx,by have:=h.bot x hx;exact Pd⟩
 have hb:Sz 100 6 b:=⟨h.bd.1,h.bd.2⟩
 have hb':Sz 10000 6 b:=⟨by have:=hb.top;omega,hb.bot⟩
 show aY (qi [some (.dat (b6 T b)),none] Xx)=_
 unfold qi
 rw[aS (dJ ((bO (cC rfl (cP ((bO rfl).trans (F0 h))))).trans (Ae (by omega) hT hb' hf (by decide) (by decide) (by decide) (by decide) (by decide))))]
 dsimp only[RG]
 have s2:∀ x∈pY T (j6 T),Sz 16 96 x.2:=fun x hx=>by
  refine aH (QL.mp hx) fun y hy XX=>?_
  subst XX
  exact(hT y hy).mul hf
 have sb:=hb.mul hf
 have sb':Sz 10000 96 (gw b (j6 T)):=⟨by have:=sb.top;omega,sb.bot⟩
 have t0:ao (am bS (aq (aa 1) (ae (.int 1))) (ae (.str "="))) [some (.dat (b6 T b)),some (.dat (b6 (pY T (j6 T)) (gw b (j6 T))))] Xx=some (true,Xx) :=
  bB (aV (r:=.bool true) rfl rfl (by rw[gQ fe fe];rfl))
 unfold nN
 have hsl:(pY T (j6 T)).length=T.length:=by simp[pY]
 generalize hG:pY T (j6 T)=G at *
 generalize hB:gw b (j6 T)=B at *
 have len:ao (am (aP fun a b=>decide (b<a)) (dw (ac (aq (aa 1) (ae (.int 0))) af)) (ae (.int 0))) [some (.dat (b6 T b)),some (.dat (b6 G B))] Xx=some (decide (0<G.length),Xx):=by
  refine bB (aV (a:=.int (G.length:Nat)) ?_ rfl ?_)
  ·show(if small (tD G) then some (tD G).length else none).map _=_
   rw[if_pos (by simp[small];omega)]
   simp
  ·show some (QT (decide ((0:Int)<(G.length:Nat))))=_
   congr 3
   simp
 cases G with
 | nil =>
  have len:ao (am (aP fun a b=>decide (b<a)) (dw (ac (aq (aa 1) (ae (.int 0))) af)) (ae (.int 0))) [some (.dat (b6 T b)),some (.dat (b6 [] B))] Xx=some (false,Xx):=len
  rw[aS (cr ((i8 t0).trans (my len)))]
  rfl
 | cons x G =>
  have len:ao (am (aP fun a b=>decide (b<a)) (dw (ac (aq (aa 1) (ae (.int 0))) af)) (ae (.int 0))) [some (.dat (b6 T b)),some (.dat (b6 (x::G) B))] Xx=some (true,Xx):=len
  have sg:ao (am (aP fun a b=>decide (a<b)) (aq (aq (aq (aq (aa 1) (ae (.int 0))) (ae (.int 0))) (ae (.int 1))) (ae (.int 0))) (ae (.int 0))) [some (.dat (b6 T b)),some (.dat (b6 (x::G) B))] Xx=some (decide (x.2.1<0),Xx) :=
   bB (aV (a:=.int x.2.1) rfl rfl rfl)
  show _=some (PV.dat (b6 (if decide (x.2.1<0) then _ else _:Tm×(Int×Int)).1 (if decide (x.2.1<0) then _ else _:Tm×(Int×Int)).2),Xx)
  cases hd:decide (x.2.1<0) with
  | false =>
   rw[hd] at sg
   rw[aS (cr ((i8 t0).trans ((i8 len).trans sg)))]
   rfl
  | true =>
   rw[hd] at sg
   have sc:=Ae (Xx:=Xx) (f:=(-1,1)) (M':=1) (D':=1) (by omega:(x::G).length≤100) s2 sb' ⟨by decide,by decide⟩ (by decide) (by decide) (by decide) (by decide) (by decide)
   rw[aS ((eJ ((i8 t0).trans ((i8 len).trans sg))).trans ((aS (dJ ((bO rfl).trans sc))).trans rfl))]
   rfl
end
structure Cn (T:Tm) (b:Int×Int):Prop where
 ne:T≠[]
 hw:Hw T b
 own:∀ x∈T,x.2.2=1
 fix:nN T b=(T,b)
section
variable {T:Tm} {b:Int×Int} {Xx:St} {ρ:Sl} {f g:EF} {e:En} {N:List Nd} {Xz:List AO} {s:Int}
theorem Ek(hl:T.length≤100)(h:ρ[i]?=some (some (.dat (.tuple (tD T))))):dw (ac (aa i) af) ρ Xx=some (pI (T.length:Nat),Xx):=by
 unfold dw
 rw[cP (p:=.dat (.tuple (tD T))) (XA:=Xx) (by unfold aa;rw[h])]
 dsimp only[dh,pP,ot,QQ,Cm,pD]
 rw[if_pos (by simp[small];exact nA)]
 simp
theorem G8(hl:T.length≤100)(h:ρ[i]?=some (some (.dat (.tuple (tD T))))):ao (am (aP fun a b=>decide (b<a)) (dw (ac (aa i) af)) (ae (.int 0))) ρ Xx=some (decide (0<T.length),Xx) :=
 bB (aV (Ek hl h) rfl (by
  show some (QT (decide ((0:Int)<(T.length:Nat))))=_
  congr 3
  simp))
theorem vP(h:T≠[])(hl:T.length≤100):iu [.dat (b6 T b)] Xx=some (.dat .none,Xx):=by
 show aY (km [some (.dat (b6 T b)),none,none,none,none] Xx)=_
 unfold km
 have u1:gC [1,2,3] (aa 0) [some (.dat (b6 T b)),none,none,none,none] Xx=some (.next,[some (.dat (b6 T b)),some (.dat (.tuple (tD T))),some (.dat (.str "=")),some (.dat (Qp b)),none],Xx):=rfl
 have g0:=G8 (i:=1) (ρ:=[some (.dat (b6 T b)),some (.dat (.tuple (tD T))),some (.dat (.str "=")),some (.dat (Qp b)),none]) (Xx:=Xx) hl rfl
 rw[show decide (0<T.length)=true from by simpa using Tg.mpr h] at g0
 rw[aS u1,bx ((eJ g0).trans (bx rfl))]
 rfl
theorem C0(hb:Sz 10000 10000 b):iu [.dat (b6 [] b)] Xx=some (.dat (.bool (decide (b.1=0))),Xx):=by
 show aY (km [some (.dat (b6 [] b)),none,none,none,none] Xx)=_
 unfold km
 have u1:gC [1,2,3] (aa 0) [some (.dat (b6 [] b)),none,none,none,none] Xx=some (.next,[some (.dat (b6 [] b)),some (.dat (.tuple [])),some (.dat (.str "=")),some (.dat (Qp b)),none],Xx):=rfl
 have cmp:sJ [.dat (Q 0 1),.dat (Qp b)] Xx=some (pI ((if 0>b.1 then 1 else 0) - (if 0<b.1 then 1 else 0)),Xx):=by
  show aY (sI [some (.dat (Q 0 1)),some (.dat (Qp b)),none,none] Xx)=_
  unfold sI
  have ht:=hb.top
  have m1:am bR (aq (aa 0) (ae (.int 0))) (aq (aa 1) (ae (.int 1))) [some (.dat (Q 0 1)),some (.dat (Qp b)),none,none] Xx=some (pI 0,Xx) :=
   aV (a:=.int 0) (b:=.int b.2) rfl rfl ((dP (by decide) (by decide)).trans (by rw[Si]))
  have m2:am bR (aq (aa 1) (ae (.int 0))) (aq (aa 0) (ae (.int 1))) [some (.dat (Q 0 1)),some (.dat (Qp b)),none,none] Xx=some (pI b.1,Xx) :=
   aV (a:=.int b.1) (b:=.int 1) rfl rfl ((dP zR zQ).trans (by rw[TW]))
  have t1:=ph (is:=[3,2]) (ρ:=[some (.dat (Q 0 1)),some (.dat (Qp b)),none,none]) (Yg:=[some (.dat (Q 0 1)),some (.dat (Qp b)),some (pI 0),some (pI b.1)]) (cC m1 (cP m2)) rfl rfl
  rw[aS t1]
  rw[bx (cp (aV (a:=.bool (decide (b.1<0))) (b:=.bool (decide (0<b.1))) (r:=.int ((if 0>b.1 then 1 else 0) - (if 0<b.1 then 1 else 0))) rfl rfl ?_))]
  ·rfl
  ·show some (QY ((if decide (b.1<0)=true then 1 else 0) - (if decide (0<b.1)=true then 1 else 0)))=_
   simp only[decide_eq_true_eq,GT.gt]
 have g0:=G8 (T:=[]) (i:=1) (ρ:=[some (.dat (b6 [] b)),some (.dat (.tuple [])),some (.dat (.str "=")),some (.dat (Qp b)),none]) (Xx:=Xx) (by decide) rfl
 have g0:ao (am (aP fun a b=>decide (b<a)) (dw (ac (aa 1) af)) (ae (.int 0))) [some (.dat (b6 [] b)),some (.dat (.tuple [])),some (.dat (.str "=")),some (.dat (Qp b)),none] Xx=some (false,Xx):=g0
 rw[aS u1,aS (cr g0),aS (dJ ((bO rfl).trans cmp))]
 dsimp only[RG]
 have t0:ao (am bS (aa 2) (ae (.str "="))) [some (.dat (b6 [] b)),some (.dat (.tuple [])),some (.dat (.str "=")),some (.dat (Qp b)),some (pI ((if 0>b.1 then 1 else 0) - (if 0<b.1 then 1 else 0)))] Xx=some (true,Xx):=gR (i:=2) (a:="=") rfl fe fe
 rw[bx ((eJ t0).trans (bx (cp (aV (b:=.int 0) rfl rfl (r:=.bool (decide (b.1=0))) ?_))))]
 ·rfl
 ·show some (QT (((if 0>b.1 then 1 else 0) - (if 0<b.1 then 1 else 0):Int)==0))=_
  congr 2
  by_cases h1:b.1=0
  ·rw[h1];rfl
  ·by_cases h2:b.1<0
   ·have:¬ (0<b.1):=by omega
    simp[h1,h2,this]
   ·have:0<b.1:=by omega
    simp[h1,h2,this]
theorem Ix{g:GF}(hs:src ρ Xx=some (cA (x::xs),(x::xs).length,Xx))(hg:g (.dat x) ρ=some X6)(hb:body X6 Xx=some (.ret p,X7,XB)):dM src g body ρ Xx=some (.ret p,X7,XB):=by
 unfold dM
 rw[hs]
 dsimp only[p3,UV]
 rw[zl]
 rw[show cA (x::xs) Xx 0=some (some (.dat x)) from rfl]
 dsimp only[pJ]
 rw[hg]
 dsimp only[QQ]
 rw[hb]
theorem C1(h2:N.length≤1000)(c:Cn T b)(hs:s=1∨s=2)(hN:∀ x∈T,∃ n,N[x.1]?=some n∧n.sort=s):iA [.ref 1,.dat (b6 T b)] (bk e N Xz)=some (.dat (.bool (decide (s=1))),bk e N Xz):=by
 revert T b e N Xz s
 refine @u4 _ _ _ _ _ _ _ nI ?_
 generalize q1 _=T,q2 _=b,q3 _=e,q4 _=N,q5 _=Xz,qe _=s
 intro h2 c hs hN
 show aY (j0 [some (.ref 1),some (.dat (b6 T b)),none,none] (bk e N Xz))=_
 unfold j0
 have hl:=c.hw.few
 have src:cF (aq (aa 1) (ae (.int 0))) [some (.ref 1),some (.dat (b6 T b)),none,none] (bk e N Xz)=some (cA (tD T),(tD T).length,bk e N Xz):=gB (.inr rfl) (by rw[Qs];exact nA)
 have srt:∀ x∈T,aC 688 eI (aa 0) (ac (aa 2) af) [some (.ref 1),some (.dat (b6 T b)),some (pI (x.1:Nat)),some (.dat (Qp x.2))] (bk e N Xz)=some (pI s,bk e N Xz):=fun x hx=>by
  refine aH (hN x hx) fun n hn XX=>?_
  subst XX
  exact(bn (i:=1) (ps:=[pI (x.1:Nat)]) (XA:=bk e N Xz) rfl rfl rfl).trans (vL h2 hn)
 rcases hs with rfl | rfl
 ·obtain⟨Yg,XK,h3,o,o',q1,q2⟩:=kP (g:=eG [2,3]) (body:=ah (bJ (jz (ao (am (aP fun a b=>a !=b) (aC 688 eI (aa 0) (ac (aa 2) af)) (ae (.int 1)))) (ky (ao (aI fW (ac (aa 3) af))))) (ah (aW (ae (.bool false))) az) az) az) (fun j ρ s=>∃ o o',ρ=[some (.ref 1),some (.dat (b6 T b)),o,o']∧s=bk e N Xz) src ⟨none,none,rfl,rfl⟩ (fun j hj ρ s z=>cz z fun o o' q1 q2=>by
   subst q1 q2
   rw[Qs] at hj
   have e1:(tD T)[j]=.tuple [.int (T[j].1:Int),Qp T[j].2]:=by simp[tD]
   rw[e1]
   have hm:=Rt hj
   refine⟨_,_,_,.next,rfl,?_,.inl rfl,some (pI (T[j].1:Nat)),some (.dat (Qp T[j].2)),rfl,rfl⟩
   have w1:ao (aI fW (ac (aa 3) af)) [some (.ref 1),some (.dat (b6 T b)),some (pI (T[j].1:Nat)),some (.dat (Qp T[j].2))] (bk e N Xz)=some (true,bk e N Xz) :=
    bB ((bO rfl).trans ((wP _ _ _).trans (by rw[c.own _ hm];rfl)))
   refine(aS ((cr ((qo (bB (aV (r:=.bool false) (srt _ hm) rfl rfl))).trans (qK w1))).trans rfl)).trans ?_
   rfl)
  subst q1 q2
  rw[aS h3]
  rfl
 ·cases T with
  | nil=>exact absurd rfl c.ne
  | cons x T =>
   have h3:dM (cF (aq (aa 1) (ae (.int 0)))) (eG [2,3]) (ah (bJ (jz (ao (am (aP fun a b=>a !=b) (aC 688 eI (aa 0) (ac (aa 2) af)) (ae (.int 1)))) (ky (ao (aI fW (ac (aa 3) af))))) (ah (aW (ae (.bool false))) az) az) az) [some (.ref 1),some (.dat (b6 (x::T) b)),none,none] (bk e N Xz)=some (.ret (.dat (.bool false)),[some (.ref 1),some (.dat (b6 (x::T) b)),some (pI (x.1:Nat)),some (.dat (Qp x.2))],bk e N Xz):=by
    exact Ix (xs:=tD T) src rfl (bx ((eJ (CU (bB (aV (r:=.bool true) (srt x (.head _)) rfl rfl)))).trans (bx rfl)))
   rw[bx h3]
   rfl
theorem El{Xx XA XB:St}(h1:f ρ Xx=some (.dat (.bool x),XA))(h2:g ρ XA=some (.dat (.bool y),XA)):wj f g ρ Xx=some (.dat (.bool (x&&y)),XA):=by
 unfold wj
 rw[bB h1]
 cases x with
 | true=>exact h2
 | false=>rfl
theorem C2(h2:N.length≤1000)(c:Cn T b)(hs:s=1∨s=2)(hN:∀ x∈T,∃ n,N[x.1]?=some n∧n.sort=s):gv [.ref 1,.dat (b6 T b)] (bk e N Xz)=some (.dat (.bool (decide (s=1)&&!(b.2==1))),bk e N Xz):=by
 show aY (nG [some (.ref 1),some (.dat (b6 T b)),none,none] (bk e N Xz))=_
 unfold nG
 have hl:=c.hw.few
 rw[aS (dJ ((bO rfl).trans (vP c.ne nA)))]
 dsimp only[RG]
 have t1:ao (jn false (aa 2)) [some (.ref 1),some (.dat (b6 T b)),some (.dat .none),none] (bk e N Xz)=some (false,bk e N Xz):=rfl
 have w:=qq (Xx:=bk e N Xz) c.hw
 rw[c.fix] at w
 rw[aS (cr t1),aS (dJ ((bO rfl).trans w))]
 dsimp only[RG]
 have a1:am bS (aq (aa 3) (ae (.int 1))) (ae (.str "=")) [some (.ref 1),some (.dat (b6 T b)),some (.dat .none),some (.dat (b6 T b))] (bk e N Xz)=some (.dat (.bool true),bk e N Xz):=aV (a:=.str "=") (b:=.str "=") rfl rfl (by rw[gQ fe fe];rfl)
 have a2:aI iA (ac (aa 0) (ac (aa 3) af)) [some (.ref 1),some (.dat (b6 T b)),some (.dat .none),some (.dat (b6 T b))] (bk e N Xz)=some (.dat (.bool (decide (s=1))),bk e N Xz):=(bO rfl).trans (C1 h2 c hs hN)
 have a3:sn (aI fW (ac (aq (aa 3) (ae (.int 2))) af)) [some (.ref 1),some (.dat (b6 T b)),some (.dat .none),some (.dat (b6 T b))] (bk e N Xz)=some (.dat (.bool (!(b.2==1))),bk e N Xz):=by
  unfold sn
  rw[(bO rfl).trans (wP b.1 b.2 _)]
  rfl
 rw[bx (cp (El (XB:=bk e N Xz) a1 (El (XB:=bk e N Xz) a2 a3)))]
 rfl
theorem Le(hx:Sz 10000 98 x)(hr:fF x.1 x.2=x):ro [.dat (Qp x),.dat (Q 1 1)] Xx=some (.dat (Qp x),Xx):=by
 show aY (CF [some (.dat (Qp x)),some (.dat (Q 1 1))] Xx)=_
 unfold CF
 have ht:=hx.top
 have hq:=hx.bot
 have t1:ao (am (aP fun a b=>a==b) (aq (aa 1) (ae (.int 0))) (ae (.int 0))) [some (.dat (Qp x)),some (.dat (Q 1 1))] Xx=some (false,Xx):=rfl
 have m1:am bR (aq (aa 0) (ae (.int 0))) (aq (aa 1) (ae (.int 1))) [some (.dat (Qp x)),some (.dat (Q 1 1))] Xx=some (pI x.1,Xx) :=
  aV (a:=.int x.1) (b:=.int 1) rfl rfl ((dP zR zQ).trans (by rw[TW]))
 have m2:am bR (aq (aa 0) (ae (.int 1))) (aq (aa 1) (ae (.int 0))) [some (.dat (Qp x)),some (.dat (Q 1 1))] Xx=some (pI x.2,Xx) :=
  aV (a:=.int x.2) (b:=.int 1) rfl rfl ((dP zE zH).trans (by rw[TW]))
 rw[aS (cr t1),bx (cp ((bO (cC m1 (cP m2))).trans (tL (by omega) zL Xx))),hr]
 rfl
end
inductive Pg where
 | ret (t:Nat)
 | mk (n:Nd) (k:Nat→Pg)
 deriving Inhabited
noncomputable def run:Pg→List Nd→Nat×List Nd
 | .ret t,N=>(t,N)
 | .mk n k,N=>run (k (aU N n).1) (aU N n).2
noncomputable def Uq(N:List Nd):Prop:=∀ i j n,1≤i→1≤j→N[i]?=some n→N[j]?=some n→i=j
theorem b7(h:N <+: M){i:Nat}(e:N[i]?=some n):M[i]?=some n:=by
 obtain⟨X,rfl⟩:=h
 rw[QD (Qt.mp e).1,e]
theorem tN(h:N <+: M):N.length≤M.length:=h.length_le
theorem db(N:List Nd)(n:Nd):N <+: (aU N n).2:=by
 unfold aU
 cases mi N n with
 | some _=>exact Rj _
 | none=>exact List.prefix_append ..
theorem dU(h1:1≤N.length):(aU N n).2[(aU N n).1]?=some n∧1≤(aU N n).1:=by
 unfold aU
 cases h:mi N n with
 | some i=>exact pX h
 | none=>simp[h1]
theorem F1(u:Uq N)(h:N[i]?=some n)(hi:1≤i):mi N n=some i:=by
 cases e:mi N n with
 | none=>exact absurd h (sU e hi)
 | some j=>rw[u j i n (pX e).2 hi (pX e).1 h]
theorem tO(u:Uq N)(h:N[i]?=some n)(hi:1≤i):aU N n=(i,N):=by
 unfold aU
 rw[F1 u h hi]
theorem Lg(u:Uq N)(h1:1≤N.length):Uq (aU N n).2:=by
 unfold aU
 cases h:mi N n with
 | some i=>exact u
 | none =>
  intro i j m hi hj ei ej
  have key:∀ i,1≤i→(N++[n])[i]?=some m→(i<N.length∧N[i]?=some m)∨(i=N.length∧n=m):=fun i hi e=>by
   by_cases q:i<N.length
   ·exact .inl ⟨q,by rw[QD q] at e;exact e⟩
   ·rw[QE (by lia)] at e
    have:=(Qt.mp e).1
    simp at this
    have hi:i=N.length:=by lia
    subst hi
    simp at e
    exact .inr ⟨rfl,e⟩
  rcases key i hi ei with⟨q1,q2⟩ | ⟨q1,q2⟩<;>rcases key j hj ej with⟨q3,q4⟩ | ⟨q3,q4⟩
  ·exact u i j m hi hj q2 q4
  ·exact absurd (q4▸q2) (sU h hi)
  ·exact absurd (q2▸q4) (sU h hj)
  ·lia
theorem Ag:∀ (p:Pg) (N:List Nd),N <+: (run p N).2
 | .ret t,N=>Rj _
 | .mk n k,N=>(db N n).trans (Ag (k _) _)
theorem Ep:∀ (p:Pg) (N:List Nd),Uq N→1≤N.length→Uq (run p N).2
 | .ret t,N,u,_=>u
 | .mk n k,N,u,h=>Ep (k _) _ (Lg u h) (by have:=tN (db N n);exact QH (by assumption) (by assumption))
theorem s8:∀ (p:Pg) (N M:List Nd),1≤N.length→Uq M→(run p N).2 <+: M→run p M=((run p N).1,M)
 | .ret t,N,M,_,_,_=>rfl
 | .mk n k,N,M,h,u,q=>by
  have a:=dU (n:=n) h
  have pr:=(Ag (k (aU N n).1) (aU N n).2).trans q
  have b:=tO u (b7 pr a.1) a.2
  show run (k (aU M n).1) (aU M n).2=_
  rw[b]
  exact s8 (k (aU N n).1) (aU N n).2 M (by have:=tN (db N n);exact zm) u q
inductive lK:Pg→Nat→Prop
 | ret (t m):lK (.ret t) m
 | mk {n k m}:(∀ i,lK (k i) m)→lK (.mk n k) (m+1)
theorem Iy(h:lK p m):∀ N:List Nd,(run p N).2.length≤N.length+m:=by
 induction h with
 | ret t m=>intro N;exact Ri ..
 | @mk n k m h ih =>
  intro N
  have a:=fB N n
  have b:=ih (aU N n).1 (aU N n).2
  show(run (k (aU N n).1) (aU N n).2).2.length≤_
  lia
theorem lK.mono(h:lK p m):∀ {m':Nat},m≤m'→lK p m':=by
 induction h with
 | ret t m=>intro m' _;exact .ret ..
 | mk h ih =>
  intro m' hm
  obtain⟨k,rfl⟩:∃ k,m'=k+1:=⟨m' - 1,by exact Pi⟩
  exact .mk fun i=>ih i (SV (by assumption))
noncomputable def base(s:Int):List Nd:=[⟨"",[],0,.inl 0⟩,⟨"true",[],0,.inl 0⟩,⟨"false",[],0,.inl 0⟩,⟨"app",[],0,.inl 0⟩,⟨"app",[],s,.inl 1⟩,⟨"app",[],s,.inl 2⟩,aM (2,1) s,⟨"ite",[3,6,4],s,.inl 0⟩]
structure OK (s:Int) (N:List Nd):Prop where
 so:s=1∨s=2
 pre:base s <+: N
 un:Uq N
theorem OK.len(o:OK s N):8≤N.length:=tN o.pre
theorem OK.at{N:List Nd}(o:OK s N){i:Nat}(h:(base s)[i]?=some n):N[i]?=some n:=b7 o.pre h
theorem OK.run(o:OK s N)(p:Pg):OK s (run p N).2:=⟨o.so,o.pre.trans (Ag p N),Ep p N o.un (by have:=o.len;exact nB)⟩
theorem OK.add(o:OK s N)(n:Nd):OK s (aU N n).2:=o.run (.mk n .ret)
theorem OK.unk(o:OK s N):z6 N:=fun u h=>by
 rcases dm.mp h with rfl | rfl | rfl
 ·have e:N[4]?=some ⟨"app",[],s,.inl 1⟩:=o.at rfl
  exact⟨⟨_,e,.inl rfl⟩,by unfold ff;rw[e]⟩
 ·have e:N[5]?=some ⟨"app",[],s,.inl 2⟩:=o.at rfl
  exact⟨⟨_,e,.inl rfl⟩,by unfold ff;rw[e]⟩
 ·have e:N[7]?=some ⟨"ite",[3,6,4],s,.inl 0⟩:=o.at rfl
  exact⟨⟨_,e,.inr rfl⟩,by unfold ff;rw[e]⟩
theorem OK.tri(o:OK s N){u:Nat}(h:tri u=true):∃ n,N[u]?=some n∧n.sort=s∧(n.op=("app":Str)∨n.op=("ite":Str)):=by
 rcases dm.mp h with rfl | rfl | rfl
 ·exact⟨_,o.at rfl,rfl,.inl rfl⟩
 ·exact⟨_,o.at rfl,rfl,.inl rfl⟩
 ·exact⟨_,o.at rfl,rfl,.inr rfl⟩
noncomputable def s9(x:Int×Int)(s:Int)(t:Nat)(k:Nat→Pg):Pg:=if x=(1,1) then k t else .mk (aM x s) fun i=>.mk (mC x s i t) k
theorem xC(N:List Nd)(x:Int×Int)(s:Int)(t:Nat)(k:Nat→Pg):run (s9 x s t k) N=run (k (dH N x s t).1) (dH N x s t).2:=by
 unfold s9 dH
 split<;>rfl
noncomputable def tc(s:Int)(ts:List Nat)(k:Nat→Pg):Pg:=qL ts k (.mk (dz ts s) k)
theorem BA(N:List Nd)(s:Int)(ts:List Nat)(k:Nat→Pg):run (tc s ts k) N=run (k (f0 N ts s).1) (f0 N ts s).2:=by
 cases ts with
 | nil=>rfl
 | cons a r=>cases r<;>rfl
noncomputable def gS(s:Int)(c:Nat→Int):List Nat→List Nat→(List Nat→Pg)→Pg
 | [],acc,k=>k acc
 | u::us,acc,k=>s9 (be (c u)) s u fun t=>gS s c us (acc++[t]) k
theorem uU:gS s c (u::us) acc k=s9 (be (c u)) s u fun t=>gS s c us (acc++[t]) k:=rfl
theorem td(o:OK s N)(hu:tri u=true)(x:Int×Int):OK s (dH N x s u).2∧N <+: (dH N x s u).2∧(dH N x s u).2.length≤N.length+2∧∃ n,(dH N x s u).2[(dH N x s u).1]?=some n∧n.sort=s∧n.op≠("num":Str)∧(dH N x s u).1≠0:=by
 unfold dH
 split
 ·refine d9 (o.tri hu) fun n h1 h2 h3=>?_
  exact⟨o,Rj _,by simp,n,h1,h2,by rcases h3 with h | h<;>rw[h]<;>decide,om hu⟩
 ·have o1:=o.add (aM x s)
  have o2:=o1.add (mC x s (aU N (aM x s)).1 u)
  have l1:=fB N (aM x s)
  have l2:=fB (aU N (aM x s)).2 (mC x s (aU N (aM x s)).1 u)
  have a:=dU (N:=(aU N (aM x s)).2) (n:=mC x s (aU N (aM x s)).1 u) (by have:=o1.len;exact nB)
  exact⟨o2,(db ..).trans (db ..),by lia,_,a.1,rfl,by show("*":Str)≠_;decide,by lia⟩
noncomputable def cu(c:Nat→Int):List Nat:=[4,5,7].filter fun u=>c u≠0
noncomputable def eA(s:Int)(c:Nat→Int)(B:Int×Int):Pg:=gS s c (cu c) [] fun ts=>tc s ts fun l=>.mk (aM B s) fun r=>.mk (bU l r) .ret
theorem Ah:∀ {us acc:List Nat} {k:List Nat→Pg},(∀ u∈us,c u=d u)→gS s c us acc k=gS s d us acc k:=by
 intro a_
 induction a_ with
 | nil =>
  intro _ _ _
  exact rfl
 | cons u us ih =>
  intro acc k h
  rw[uU,uU]
  rw[h u (.head _)]
  congr 1
  funext t
  exact ih fun v hv=>h v (.tail _ hv)
theorem fA(h:u∈cu c):tri u=true∧c u≠0:=by
 have:=RH.mp h
 exact⟨dm.mpr (by have:=this.1;simpa using this),by simpa using this.2⟩
theorem wW(ha:f ρ Xx=some (.ref o,Xx))(h0:la Xx[o]?=some "list")(hp:fp ρ Xx=some (p,XA))(hst:XA[o]?=some (.list L))(hl:L.length<2 ^ 20):
  cM (d8 "list" cK f (ac fp af)) ρ Xx=some (.next,ρ,XA.set o (.list (L++[p]))):=by
 have:d8 "list" cK f (ac fp af) ρ Xx=some (.dat .none,XA.set o (.list (L++[p]))):=by
  refine(wT ha h0 (cP hp)).trans ?_
  unfold cK
  rw[hst]
  dsimp only[d7,QQ]
  rw[if_pos hl]
 exact nP this
section
variable {e:En} {N:List Nd} {Xz:List AO} {s c:Int} {i m:Nat} {P:Wt}
theorem FA.ext(F:FA Xz i m P c)(x:List AO):FA (Xz++x) i m P c :=
 ⟨by rw[QD (Qt.mp F.inst).1];exact F.inst,by rw[QD (Qt.mp F.dict).1];exact F.dict,F.pr⟩
noncomputable abbrev Lh:EF:=eV (ao (am bS (aa 5) (ae (.tuple [.int 1,.int 1])))) (aa 4) (aC 688 ir (aa 0) (ac (aa 5) (ac (aa 4) af)))
noncomputable abbrev Li:SF:=ah (cM (d8 "list" cK (aa 3) (ac Lh af))) az
noncomputable abbrev Lj:SF:=ah (bJ (jz (ao (am (aP fun a b=>a !=b) (aq (aE 740 1 (aa 1)) (ae (.int 0))) (ae (.int 0)))) (ao (am (aP fun a b=>a==b) (dw (ac (aa 3) af)) (ae (.int 0))))) (ah (cM (d8 "list" cK (aa 3) (ac (aC 688 fY (aa 0) (ac (aE 740 1 (aa 1)) (ac (aa 2) af))) af))) az) az) (ah (aW (eV (ao (am (aP fun a b=>a==b) (dw (ac (aa 3) af)) (ae (.int 1)))) (aq (aa 3) (ae (.int 0))) (aC 688 oU (aa 0) (ac (gd (ac (aa 3) af)) af)))) az)
noncomputable abbrev toS(i:Nat)(s:Int)(r:Nat)(o1 o2:Option PV):Sl:=[some (.ref 1),some (.ref (i+11)),some (pI s),some (.ref (r+11)),o1,o2]
theorem F2:ma=ah (bQ 3 (fg af)) (ah (dM (cF (aC 740 e8 (aa 1) af)) (eG [4,5]) Li) Lj):=rfl
theorem qO:(bk e N (Xz++[X]))[Xz.length+11]?=some X:=by
 show(Xz++[X])[Xz.length]?=_
 simp
theorem lC{a b c:Nat}(h:a≤b)(w:b≤c):a≤c:=QH h w
noncomputable def Lk(N:List Nd)(s:Int)(t:Nat):Prop:=t≠0∧∃ n,N[t]?=some n∧n.sort=s∧n.op≠("num":Str)
noncomputable def TI(e:En)(N:List Nd)(Xz:List AO)(i:Nat)(s:Int)(c:Nat→Int)(ks:List Nat)(j:Nat)(ρ:Sl)(Xx:St):Prop :=
 ∃ N' acc,(∃ o1 o2,ρ=toS i s Xz.length o1 o2)∧Xx=bk e N' (Xz++[AO.list (tP acc)])∧OK s N'∧N <+: N'∧N'.length≤N.length+2*j∧acc.length=j∧(∀ t∈acc,Lk N' s t)∧∀ k,run (gS s c (ks.drop j) acc k) N'=run (gS s c ks [] k) N
theorem Ll{h:Int}(o:OK s N)(hl:N.length≤950)(hu:tri u=true)(hb:In 1000 h)(hw:s=1→(be h).2=1):
  Lh (toS i s r (some (pI (u:Nat))) (some (.dat (Dh h)))) (bk e N (Xz++[X]))=some (pI ((dH N (be h) s u).1:Nat),bk e (dH N (be h) s u).2 (Xz++[X])):=by
 have hsm:Sm (be h):=Bd.sm (by unfold In at hb;unfold Bd;clear hl;exact zB)
 have t1:ao (am bS (aa 5) (ae (.tuple [.int 1,.int 1]))) (toS i s r (some (pI (u:Nat))) (some (.dat (Dh h)))) (bk e N (Xz++[X]))=some (decide ((be h).1=1∧(be h).2=1),bk e N (Xz++[X])) :=
  bB (aV (b:=Q 1 1) rfl rfl (K6 _ _ _ _))
 refine d9 (o.tri hu) fun n n1 n2 n3=>?_
 by_cases h11:(be h).1=1∧(be h).2=1
 ·rw[decide_eq_true h11] at t1
  refine(ml t1).trans ?_
  unfold dH
  rw[if_pos (TV h11.1 h11.2)]
  rfl
 ·rw[decide_eq_false h11] at t1
  subst n2
  exact(j4 t1).trans ((bn (i:=1) (ps:=[.dat (Dh h),pI (u:Nat)]) (XA:=bk e N (Xz++[X])) rfl rfl rfl).trans (Bv (lC (by decide) o.len) (lC hl (by decide)) n1 hsm o.so hw (by rcases n3 with h | h<;>rw[h]<;>first | exact fQ | exact gl) (by rcases n3 with h | h<;>rw[h]<;>decide)))
theorem Iz{c:Nat→Int}(hj:j<(cu c).length)(hl:N.length≤900)(h3:(cu c).length≤3)(hb:∀ u,In 1000 (c u))(hw:s=1→∀ u,(be (c u)).2=1)(q:TI e N Xz i s c (cu c) j ρ Xx):
  ∃ X6 X7 XB fl,eG [4,5] (.dat (.tuple [.int ((cu c)[j]:Nat),Dh (c (cu c)[j])])) ρ=some X6∧Li X6 Xx=some (fl,X7,XB)∧(fl=.next∨fl=.cont)∧TI e N Xz i s c (cu c) (j+1) X7 XB:=by
 revert e N Xz s i j ρ Xx c
 refine @tX _ _ _ _ _ _ _ _ _ _ nI ?_
 generalize q1 _=e,q2 _=N,q3 _=Xz,q4 _=s,q5 _=i,q6 _=j,q7 _=ρ,q8 _=Xx,qe _=c
 intro hj hl h3 hb hw q
 obtain⟨N',acc,⟨o1,o2,q1⟩,q2,q3,q4,q5,q6,q7,q8⟩:=q
 subst q1 q2
 have q8:=fun k=>(congrArg (fun l=>run (gS s c l acc k) N') (Ut hj)).symm.trans (q8 k)
 have hum:=Rt hj
 generalize (cu c)[j]=u at *
 have ht:=(fA hum).1
 obtain⟨r1,r2,r3,n',r4,r5,r6,r7⟩:=td q3 ht (be (c u))
 have hl':N'.length≤906:=lC q5 (by clear q4 q8 r3 q5;lia)
 have a1:=wW (f:=aa 3) (fp:=Lh) (o:=Xz.length+11) (Xx:=bk e N' (Xz++[AO.list (tP acc)])) (ρ:=toS i s Xz.length (some (pI (u:Nat))) (some (.dat (Dh (c u))))) rfl (by rw[qO];rfl) (Ll q3 (lC hl' (by decide)) ht (hb u) fun h=>hw h u) (L:=tP acc) qO (by rw[tP,Qs,q6];exact VS hj (lC h3 (by decide)))
 refine⟨_,_,_,.next,rfl,(aS a1).trans rfl,.inl rfl,(dH N' (be (c u)) s u).2,acc++[(dH N' (be (c u)) s u).1],⟨_,_,rfl⟩,?_,r1,q4.trans r2,lC r3 (Sd q5 2),by rw[RR,q6];rfl,?_,fun k=>?_⟩
 ·show bk e (dH N' (be (c u)) s u).2 ((Xz++[AO.list (tP acc)]).set Xz.length (AO.list (tP acc++[pI ((dH N' (be (c u)) s u).1:Nat)])))=_
  rw[Q2 _ _ (QZ _)]
  simp[tP]
 ·intro t ht'
  rcases Qw.mp ht' with h | h
  ·obtain⟨b0,b1,b2,b3,b4⟩:=q7 t h
   exact⟨b0,b1,b7 r2 b2,b3,b4⟩
  ·rw[Qu] at h
   exact h▸⟨r7,n',r4,r5,r6⟩
 ·rw[← q8 k]
  exact(xC N' (be (c u)) s u fun t=>gS s c ((cu c).drop (j+1)) (acc++[t]) k).symm
theorem Lm:dw (ac (aa 3) af) (toS i s Xz.length o1 o2) (bk e N (Xz++[AO.list (tP A)]))=some (pI (A.length:Nat),bk e N (Xz++[AO.list (tP A)])):=by
 show(ou (bk e N (Xz++[AO.list (tP A)]))[Xz.length+11]? (fun l=>some l.length) fun l=>some l.length).map (fun(n:Nat)=>(PV.dat (.int (n:Int)),bk e N (Xz++[AO.list (tP A)])))=_
 rw[qO]
 simp[ou]
noncomputable abbrev Ln(j:Int):TF:=ao (am (aP fun a b=>a==b) (dw (ac (aa 3) af)) (ae (.int j)))
theorem G9(j:Nat):Ln (j:Nat) (toS i s Xz.length o1 o2) (bk e N (Xz++[AO.list (tP A)]))=some (decide (A.length=j),bk e N (Xz++[AO.list (tP A)])) :=
 bB (aV Lm rfl (by
  show some (QT (((A.length:Nat):Int)==(j:Nat)))=_
  rw[show(((A.length:Nat):Int)==((j:Nat):Int))=decide (A.length=j) by rw[SB];simp;lia]))
theorem Lo{A:List Nat}(F:FA Xz i m P 0)(hA:A≠[])(h3:A.length≤3)(o:OK s N)(hl:N.length≤906)(q7:∀ t∈A,Lk N s t):
  ∃ N' t,aY (Lj (toS i s Xz.length o1 o2) (bk e N (Xz++[AO.list (tP A)])))=some (pI (t:Nat),bk e N' (Xz++[AO.list (tP A)]))∧OK s N'∧N <+: N'∧N'.length≤N.length+1∧Lk N' s t∧∀ k,run (tc s A k) N=run (k t) N':=by
 have c0:ao (am (aP fun a b=>a !=b) (aq (aE 740 1 (aa 1)) (ae (.int 0))) (ae (.int 0))) (toS i s Xz.length o1 o2) (bk e N (Xz++[AO.list (tP A)]))=some (false,bk e N (Xz++[AO.list (tP A)])) :=
  bB (aV (a:=.int 0) (b:=.int 0) (gW (k:=0) (yn (F.ext _) rfl) rfl rfl) rfl rfl)
 have c1:Ln 0 (toS i s Xz.length o1 o2) (bk e N (Xz++[AO.list (tP A)]))=_:=G9 0
 have c2:Ln 1 (toS i s Xz.length o1 o2) (bk e N (Xz++[AO.list (tP A)]))=_:=G9 1
 rw[decide_eq_false (fun q=>hA (UW.mp q))] at c1
 unfold Lj
 rw[aS (cr ((qo c0).trans c1))]
 cases A with
 | nil=>exact absurd rfl hA
 | cons t r=>cases r with
 | nil =>
  have q:=q7 t (.head _)
  refine⟨N,t,?_,o,Rj _,TR _,q,fun k=>rfl⟩
  rw[bx (cp ((ml c2).trans (gW (k:=0) (q:=pI (t:Nat)) rfl rfl ?_)))]
  ·rfl
  ·unfold iW
   rw[if_pos (by decide)]
   dsimp only[pD]
   rw[qO]
   rfl
 | cons t2 r =>
  clear hA
  have pl:=Ed (e:=e) (N:=N) (Xz:=Xz++[AO.list (tP (t::t2::r))]) (s:=s) (t:=t) (ts:=t2::r) (lC (by decide) o.len) (lC hl (by decide)) (fun x hx=>by obtain⟨_,n,b1,b2,_⟩:=q7 x hx;exact⟨n,b1,b2⟩) (lC (SV h3) (by decide)) o.so
  rw[decide_eq_false (show ¬ (t::t2::r).length=1 from fun q=>absurd (Td q) (Nat.succ_ne_zero _))] at c2
  generalize hA:t::t2::r=A at *
  have tp:gd (ac (aa 3) af) (toS i s Xz.length o1 o2) (bk e N (Xz++[AO.list (tP A)]))=some (.dat (.tuple (tI A)),bk e N (Xz++[AO.list (tP A)])):=by
   have hd:gM (tP A)=some (tI A):=by
    have:=kH (tI A)
    rw[Ra] at this
    exact this
   show d7 kM (bk e N (Xz++[AO.list (tP A)]))[Xz.length+11]? _=_
   rw[qO]
   dsimp only[d7,kM,QQ]
   rw[hd]
  have ep:f0 N A s=aU N (dz A s):=by rw[← hA];rfl
  rw[ep] at pl
  have at1:=dU (N:=N) (n:=dz A s) (lC (by decide) o.len)
  refine⟨(aU N (dz A s)).2,(aU N (dz A s)).1,?_,o.add _,db ..,(fB N (dz A s)).2,⟨fun q=>absurd at1.2 (by rw[q];decide),dz A s,at1.1,rfl,by show("+":Str)≠_;decide⟩,fun k=>by rw[BA,ep]⟩
  rw[bx (cp ((j4 c2).trans ((bn (i:=1) (ps:=[.dat (.tuple (tI A))]) (XA:=bk e N (Xz++[AO.list (tP A)])) rfl rfl (cP tp)).trans pl)))]
  rfl
theorem M5(o:OK s N)(hl:N.length≤900)(F:FA Xz i m P 0)(XU:eY P≠[])(hb:∀ u,In 1000 (bE P u))(hw:s=1→∀ u,(be (bE P u)).2=1):
  ∃ ext N' t n,jR [.ref 1,.ref (i+11),pI s] (bk e N Xz)=some (pI (t:Nat),bk e N' (Xz++ext))∧OK s N'∧N <+: N'∧N'.length≤N.length+7∧N'[t]?=some n∧n.sort=s∧n.op≠("num":Str)∧t≠0 ∧
   ∀ k,run (gS s (bE P) (eY P) [] fun ts=>tc s ts k) N=run (k t) N':=by
 revert e N Xz s i m P
 refine @jV _ _ _ _ _ _ _ _ nI ?_
 generalize q1 _=e,q2 _=N,q3 _=Xz,q4 _=s,q5 _=i,q6 _=m,qe _=P
 intro o hl F XU hb hw
 refine cps fun G kG=>?_
 have kT:=pj P
 have tlen:(pn (bE P)).length=(eY P).length:=by rw[pn,Qs];rfl
 have p1:aC 740 e8 (aa 1) af (toS i s Xz.length none none) (bk e N (Xz++[AO.list []]))=some (.dat (.tuple (pn (bE P))),bk e N (Xz++[AO.list []])) :=
  (bn (i:=i+11) (ps:=[]) (XA:=bk e N (Xz++[AO.list []])) rfl (by rw[show(bk e N (Xz++[AO.list []]))[i+11]?=_ from(F.ext _).inst];rfl) rfl).trans (By (F.ext _))
 obtain⟨Yg,XK,h1,N',acc,⟨o1,o2,q1⟩,q2,q3,q4,q5,q6,q7,q8⟩:=kP (g:=eG [4,5]) (body:=Li) (TI e N Xz i s (bE P) (eY P)) (gB (.inr p1) (lC (tlen▸kT) (by decide))) ⟨N,[],⟨none,none,rfl⟩,rfl,o,Rj _,QZ _,rfl,fun t h=>absurd h RV,fun k=>rfl⟩
  (fun j hj ρ Xx q=>by
   rw[tlen] at hj
   rw[show(pn (bE P))[j]=.tuple [.int ((eY P)[j]:Nat),Dh (bE P (eY P)[j])] from UX ..]
   exact Iz hj hl kT hb hw q)
 subst q1 q2
 rw[tlen] at q5 q6 q8
 rw[List.drop_length] at q8
 have h6:N'.length≤N.length+6:=lC q5 (VK (VL 2 kT) _)
 obtain⟨M,t,e1,e2,e3,e4,⟨f1,n,f2,f3,f4⟩,e5⟩:=Lo (o1:=o1) (o2:=o2) F (fun q=>by rw[q] at q6;exact XU (UW.mp q6.symm)) (q6▸kT) q3 (lC h6 (Sd hl 6)) q7
 refine kG ⟨[AO.list (tP acc)],M,t,n,?_,e2,q4.trans e3,lC e4 (So h6),f2,f3,f4,f1,fun k=>(q8 fun ts=>tc s ts k).symm.trans (e5 k)⟩
 show aY (ma (toS i s 0 none none |>.set 3 none) (bk e N Xz))=_
 rw[F2,aS (dJ (show fg af _ (bk e N Xz)=some (.ref (Xz.length+11),bk e N (Xz++[AO.list []])) from rfl))]
 exact(congrArg aY (aS h1)).trans e1
end
noncomputable abbrev cQ(c:Nat→Int):Tm:=(cu c).map fun u=>(u,be (c u))
theorem Ha(c:Nat→Int):tD (cQ c)=pn c:=by
 rw[tD,cQ,Ra]
 rfl
theorem Ai(r:PR P)(h:tri u=false):bE P u=0:=QG fun q=>by
 rw[rL r q] at h
 cases h
section
variable {e:En} {N:List Nd} {Xz:List AO} {s:Int} {c:Nat→Int} {B:Int×Int}
noncomputable abbrev R2(Xz:List AO)(P:Wt):List AO:=Xz++[AO.inst 740 [some (.ref (Xz.length+1+11)),some (.dat (Dh 0))],AO.idict (dI P)]
theorem Hb(r:PR P):FA (R2 Xz P) Xz.length (Xz.length+1) P 0:=⟨by simp,by simp,r⟩
theorem Lp(P':Wt):(R2 Xz P).set (Xz.length+1) (AO.idict (dI P'))=R2 Xz P':=by simp[R2,Q2]
theorem Lq(o:OK s N)(hl:N.length≤880)(XU:cu c≠[])(hb:∀ u,In 1000 (c u))(hw:s=1→∀ u,tri u=true→(be (c u)).2=1)(hB:Sm B)(hBw:s=1→B.2=1):
  ∃ ext,jg [.ref 1,.dat (b6 (cQ c) B),pI s] (bk e N Xz)=some (pI ((run (eA s c B) N).1:Nat),bk e (run (eA s c B) N).2 (Xz++ext)):=by
 revert e N Xz s c B
 refine @u4 _ _ _ _ _ _ _ nI ?_
 generalize q1 _=e,q2 _=N,q3 _=Xz,q4 _=s,q5 _=c,qe _=B
 intro o hl XU hb hw hB hBw
 have kT:(cu c).length≤3:=Q6 _ [4,5,7]
 show ∃ ext,aY (nH [some (.ref 1),some (.dat (b6 (cQ c) B)),some (pI s),none,none,none,none,none] (bk e N Xz))=_
 unfold nH
 have nO:iZ 740 fZ af [some (.ref 1),some (.dat (b6 (cQ c) B)),some (pI s),none,none,none,none,none] (bk e N Xz)=some (.ref (Xz.length+11),bk e N (R2 Xz [])):=Ef
 rw[aS (dJ nO)]
 dsimp only[RG]
 refine cps fun G kG=>?_
 have p1:aq (aa 1) (ae (.int 0)) [some (.ref 1),some (.dat (b6 (cQ c) B)),some (pI s),some (.ref (Xz.length+11)),none,none,none,none] (bk e N (R2 Xz []))=some (.dat (.tuple (tD (cQ c))),bk e N (R2 Xz [])):=rfl
 have Yo:(cu c).Nodup:=Sr RY (by decide)
 have tlen:(tD (cQ c)).length=(cu c).length:=by rw[tD,cQ,Qs,Qs]
 obtain⟨Yg,XK,h1,P,⟨o1,o2,q1⟩,q2,q3,q4⟩:=kP (g:=eG [4,5]) (body:=ah (cM (aC 740 eZ (aa 3) (ac (aa 4) (ac (aa 5) af)))) az)
  (fun j ρ Xx=>∃ P,(∃ o1 o2,ρ=[some (.ref 1),some (.dat (b6 (cQ c) B)),some (pI s),some (.ref (Xz.length+11)),o1,o2,none,none])∧Xx=bk e N (R2 Xz P)∧PR P∧∀ y,bE P y=if y∈(cu c).take j then c y else 0)
  (gB (.inr p1) (by omega)) ⟨[],⟨none,none,rfl⟩,rfl,⟨by simp,fun k h q=>dK q,fun k q=>by simp at q⟩,fun y=>by simp[bE,eu]⟩
  (fun j hj ρ Xx z=>by
   obtain⟨P,⟨o1,o2,q1⟩,q2,q3,q4⟩:=z
   subst q1 q2
   rw[tlen] at hj
   have hx:(tD (cQ c))[j]=.tuple [.int ((cu c)[j]:Nat),Dh (c (cu c)[j])]:=by
    have:(tD (cQ c))[j]?=some (.tuple [.int ((cu c)[j]:Nat),Dh (c (cu c)[j])]):=by
     rw[Ha,pn,Q7,show(([4,5,7]:List Nat).filter fun u=>c u≠0)[j]?=some (cu c)[j] from SL hj]
     rfl
    exact(Qt.mp this).2
   rw[hx]
   generalize hu:(cu c)[j]=u
   have hum:u∈cu c:=hu▸Rt hj
   refine bA (fA hum) fun ht hz=>?_
   have hnot:u∉(cu c).take j:=fun q=>by
    obtain⟨i,hi,q⟩:=Tf.mp q
    have:=(Sj Yo).mp (q.trans hu.symm)
    omega
   have c0:bE P u=0:=by rw[q4,if_neg hnot]
   have F:=Hb (Xz:=Xz) q3
   have m1:aC 740 eZ (aa 3) (ac (aa 4) (ac (aa 5) af)) [some (.ref 1),some (.dat (b6 (cQ c) B)),some (pI s),some (.ref (Xz.length+11)),some (pI (u:Nat)),some (.dat (Dh (c u))),none,none] (bk e N (R2 Xz P))=some (.dat .none,bk e N (R2 Xz (rJ P u (c u)))):=by
    refine(bn (i:=Xz.length+11) (ps:=[pI (u:Nat),.dat (Dh (c u))]) (XA:=bk e N (R2 Xz P)) rfl (by rw[show(bk e N (R2 Xz P))[Xz.length+11]?=_ from F.inst];rfl) rfl).trans ?_
    rw[sZ F (dm.mp ht) (by rw[c0];unfold Bd;decide) (by have:=hb u;unfold In at this;unfold Bd;exact zB),Lp]
   have ha:=q3.add (dm.mp ht) (c u)
   refine⟨_,_,_,.next,rfl,(aS (nP m1)).trans rfl,.inl rfl,_,⟨_,_,rfl⟩,rfl,ha.1,fun y=>?_⟩
   rw[ha.2,q4,← Ro hj,hu]
   by_cases hy:u=y
   ·subst hy;simp[hnot]
   ·have hy':¬ y=u:=fun q=>hy q.symm
    simp[hy,hy'])
 subst q1 q2
 refine kG ?_
 rw[aS h1]
 refine cps fun G kG=>?_
 rw[tlen,Sn] at q4
 have hco:∀ y,tri y=true→bE P y=c y:=fun y hy=>by
  rw[q4]
  by_cases h:y∈cu c
  ·rw[if_pos h]
  ·rw[if_neg h]
   exact(QG fun q=>h (RH.mpr ⟨by have:=dm.mp hy;simpa using this,by simpa using fun z=>q z.symm⟩))
 have hks:eY P=cu c:=by
  refine List.filter_congr fun u hu=>?_
  rw[hco u (dm.mpr (by simpa using hu))]
 have F:=Hb (Xz:=Xz) q3
 obtain⟨ext,N',t,n,f1,f2,f3,f4,f5,f6,f7,f8,f9⟩:=M5 (e:=e) (Xz:=R2 Xz P) o (by omega) F (by rw[hks];exact XU) (fun u=>by
  cases ht:tri u with
  | true=>rw[hco u ht];exact hb u
  | false=>rw[Ai q3 ht];unfold In;decide) (fun hs u=>by
  cases ht:tri u with
  | true=>rw[hco u ht];exact hw hs u ht
  | false=>rw[Ai q3 ht];rfl)
 have ln:=fB N' (aM B s)
 have nv:=yk (e:=e) (N:=N') (Xz:=R2 Xz P++ext) (x:=B) (s:=s) (by have:=f2.len;omega) zd hB f2.so hBw
 have a1:aI jR (ac (aa 0) (ac (aa 3) (ac (aa 2) af))) [some (.ref 1),some (.dat (b6 (cQ c) B)),some (pI s),some (.ref (Xz.length+11)),o1,o2,none,none] (bk e N (R2 Xz P))=some (pI (t:Nat),bk e N' (R2 Xz P++ext)):=(bO rfl).trans f1
 have a2:aC 688 fY (aa 0) (ac (aq (aa 1) (ae (.int 2))) (ac (aa 2) af)) [some (.ref 1),some (.dat (b6 (cQ c) B)),some (pI s),some (.ref (Xz.length+11)),o1,o2,none,none] (bk e N' (R2 Xz P++ext))=some (pI ((aU N' (aM B s)).1:Nat),bk e (aU N' (aM B s)).2 (R2 Xz P++ext)) :=
  (bn (i:=1) (ps:=[.dat (Qp B),pI s]) (XA:=bk e N' (R2 Xz P++ext)) rfl rfl rfl).trans nv
 have t1:=ph (is:=[7,6]) (ρ:=[some (.ref 1),some (.dat (b6 (cQ c) B)),some (pI s),some (.ref (Xz.length+11)),o1,o2,none,none]) (Yg:=[some (.ref 1),some (.dat (b6 (cQ c) B)),some (pI s),some (.ref (Xz.length+11)),o1,o2,some (pI (t:Nat)),some (pI ((aU N' (aM B s)).1:Nat))]) (cC a1 (cP a2)) rfl rfl
 refine kG ?_
 rw[aS t1]
 have t2:ao (am bS (aq (aa 1) (ae (.int 1))) (ae (.str "="))) [some (.ref 1),some (.dat (b6 (cQ c) B)),some (pI s),some (.ref (Xz.length+11)),o1,o2,some (pI (t:Nat)),some (pI ((aU N' (aM B s)).1:Nat))] (bk e (aU N' (aM B s)).2 (R2 Xz P++ext))=some (true,bk e (aU N' (aM B s)).2 (R2 Xz P++ext)) :=
  bB (aV (a:=.str "=") (b:=.str "=") rfl rfl (by rw[gQ fe fe];rfl))
 have r1:=dU (N:=N') (n:=aM B s) (by have:=f2.len;omega)
 have ev:=K7 (e:=e) (N:=(aU N' (aM B s)).2) (Xz:=R2 Xz P++ext) (a:=t) (b:=(aU N' (aM B s)).1) (na:=n) (nb:=aM B s) (by have:=f2.len;omega) Pl (b7 (db ..) f5) r1.1 f6.symm (fun q=>by
  have h1:=b7 (db N' (aM B s)) f5
  rw[q,r1.1] at h1
  obtain rfl:=cE h1
  exact f7 rfl)
 have hrun:run (eA s c B) N=((aU (aU N' (aM B s)).2 (bU t (aU N' (aM B s)).1)).1,(aU (aU N' (aM B s)).2 (bU t (aU N' (aM B s)).1)).2):=by
  unfold eA
  rw[Ah (d:=bE P) fun u hu=>(hco u (fA hu).1).symm,← hks]
  exact f9 fun l=>.mk (aM B s) fun r=>.mk (bU l r) .ret
 refine⟨[AO.inst 740 [some (.ref (Xz.length+1+11)),some (.dat (Dh 0))],AO.idict (dI P)]++ext,?_⟩
 rw[hrun,bx ((eJ t2).trans (bx (cp ((bn (i:=1) (ps:=[pI (t:Nat),pI ((aU N' (aM B s)).1:Nat)]) (XA:=bk e (aU N' (aM B s)).2 (R2 Xz P++ext)) rfl rfl rfl).trans ev))))]
 show some _=some _
 rw[show R2 Xz P++ext=Xz++([AO.inst 740 [some (.ref (Xz.length+1+11)),some (.dat (Dh 0))],AO.idict (dI P)]++ext) from QF ..]
theorem Aj{n:Nat}{α:Type}{l:List α}{Z:Pg}{A:α→Pg}(h:∀ u,lK (A u) n)(h':lK Z n):lK (qL l A Z) n:=by
 cases l with
 | nil=>exact h'
 | cons a r=>cases r with
  | nil=>exact h a
  | cons=>exact h'
theorem Ak:lK (eA s c B) 9:=by
 have tail:∀ ts,lK (tc s ts fun l=>.mk (aM B s) fun r=>.mk (bU l r) .ret) 3:=fun ts=>by
  have h:∀ l,lK (.mk (aM B s) fun r=>.mk (bU l r) .ret) 2:=fun l=>.mk fun r=>.mk fun _=>.ret ..
  exact Aj (fun _=>(h _).mono (by decide)) (.mk h)
 have ht:∀ (us acc:List Nat),lK (gS s c us acc fun ts=>tc s ts fun l=>.mk (aM B s) fun r=>.mk (bU l r) .ret) (2*us.length+3):=fun us=>by
  induction us with
  | nil=>intro acc;exact tail acc
  | cons u us ih =>
   intro acc
   rw[uU];unfold s9
   split
   ·exact(ih _).mono (by simp;exact Ri _ _)
   ·have:=lK.mk (n:=aM (be (c u)) s) (m:=2*us.length+3+1) (k:=fun i=>.mk (mC (be (c u)) s i u) fun t=>gS s c us (acc++[t]) fun ts=>tc s ts fun l=>.mk (aM B s) fun r=>.mk (bU l r) .ret) fun i=>.mk fun t=>ih _
    exact this.mono (by simp;exact Sk _)
 have kT:(cu c).length≤3:=Q6 _ [4,5,7]
 exact(ht _ _).mono (by lia)
end
noncomputable abbrev Hc:SF:=(bQ 4 (aI jo (ac (aI hV (ac (aI gk (ac (aE 1002 0 (aa 0)) (ac (aa 1) (ac (aa 2) af)))) (ac (ae (.str "=")) af))) af)))
noncomputable abbrev F3:TF:=(gq (ao (am (aP fun a b=>a==b) (aq (aa 8) (ae (.int 0))) (ae (.int 0)))) (ao (am iF (fV (cF (aa 6)) 2 [] (eG [0,1]) dn (cq (aa 1))) (bp (ac (dT (ac (ae (.tuple [.int 1,.int 1])) (ac (ae (.tuple [.int (-1),.int 1])) af))) (ac (dT (ac (ae (.tuple [.int (-1),.int 1])) (ac (ae (.tuple [.int 1,.int 1])) af))) af))))))
noncomputable abbrev Lr(X:SF):SF:=(ah (bQ 4 (bp (ac (bp (ac (bp (ac (aq (aq (aa 6) (ae (.int 0))) (ae (.int 0))) (ac (ae (.tuple [.int 1,.int 1])) af))) af)) (ac (aa 7) (ac (aI ro (ac (aa 8) (ac (aq (aq (aa 6) (ae (.int 0))) (ae (.int 1))) af))) af))))) (ah (bQ 9 (aC 688 fY (aE 1002 0 (aa 0)) (ac (aq (aa 4) (ae (.int 2))) (ac (aC 688 eI (aE 1002 0 (aa 0)) (ac (aa 1) af)) af)))) (ah (bJ (ao (am bS (aC 688 fj (aE 1002 0 (aa 0)) (ac (aq (aq (aa 6) (ae (.int 0))) (ae (.int 0))) af)) (ae (.str "ite")))) X az) az)))
noncomputable abbrev Ls:SF:=(aW (aI jg (ac (aE 1002 0 (aa 0)) (ac (aa 4) (ac (aC 688 eI (aE 1002 0 (aa 0)) (ac (aa 1) af)) af)))))
noncomputable abbrev vQ(X:SF):SF:=ah (bQ 5 (aI iu (ac (aa 4) af))) (ah (bJ (ao (jn false (aa 5))) (ah (aW (aC 688 ki (aE 1002 0 (aa 0)) (ac (aa 5) af))) az) az) (ah (bJ (ao (aI gv (ac (aE 1002 0 (aa 0)) (ac (aa 4) af)))) (ah (aW (aE 1002 2 (aa 0))) az) az) (ah (gC [6,7,8] (aa 4)) (ah (bJ F3 (ah (aW (aC 688 sM (aE 1002 0 (aa 0)) (ac (aq (aq (aa 6) (ae (.int 0))) (ae (.int 0))) (ac (aq (aq (aa 6) (ae (.int 1))) (ae (.int 0))) af)))) az) az) (ah (bJ (ao (am (aP fun a b=>a==b) (dw (ac (aa 6) af)) (ae (.int 1)))) (Lr X) az) (ah Ls az))))))
theorem M6:js=ah Hc (vQ (ah (aW (aC 1002 e9 (aa 0) (ac (aa 9) (ac (aq (aq (aa 6) (ae (.int 0))) (ae (.int 0))) (ac (aa 3) af))))) az)):=rfl
theorem Lu:i7=ah Hc (vQ (ah fq az)):=rfl
noncomputable abbrev uh(X:SF):SF:=(ah (bJ F3 (ah (aW (aC 688 sM (aE 1002 0 (aa 0)) (ac (aq (aq (aa 6) (ae (.int 0))) (ae (.int 0))) (ac (aq (aq (aa 6) (ae (.int 1))) (ae (.int 0))) af)))) az) az) (ah (bJ (ao (am (aP fun a b=>a==b) (dw (ac (aa 6) af)) (ae (.int 1)))) (Lr X) az) (ah Ls az)))
noncomputable def Rw(Xz:List AO):Prop:=Xz[2]?=some (AO.inst 1002 [some (.ref 1),some (pI 1),some (pI 2),some (.ref 14)])
theorem Rw.ext(r:Rw Xz)(x:List AO):Rw (Xz++x):=by
 unfold Rw at *
 rw[QD (Qt.mp r).1]
 exact r
noncomputable def lL(ws:List (Int×Int)):Bool:=decide (ws=[(1,1),(-1,1)])||decide (ws=[(-1,1),(1,1)])
theorem Lv(x y:Int×Int):Rg (Qp x) (Qp y)=decide (x=y):=by
 rw[SB]
 simp[Rg,Rc,Prod.ext_iff]
theorem xD(ws vs:List (Int×Int)):Rc (ws.map Qp) (vs.map Qp)=decide (ws=vs):=sk Lv ws vs
theorem Lw(ws:List (Int×Int))(hl:ws.length≤3):iF (.list (ws.map Qp)) (.tuple [.list [Q 1 1,Q (-1) 1],.list [Q (-1) 1,Q 1 1]])=some (.bool (lL ws)):=by
 have hc:∀ l:List (Int×Int),Rn (l.map Qp)=true:=fun l=>by
  induction l with
  | nil=>rfl
  | cons a l ih=>simp only[QX,Rn,ih,UG];rfl
 unfold iF xr
 dsimp only
 rw[if_pos ⟨by decide,by simpa [Qv] using hc ws,QH (Nat.min_le_left ..) (by decide)⟩]
 have a:=xD [(1,1),(-1,1)] ws
 have b:=xD [(-1,1),(1,1)] ws
 congr 2
 rw[UE,UE,List.any_nil,W3]
 rw[show ∀ u v,Rg (.list u) (.list v)=Rc u v from fun _ _=>rfl,show ∀ u v,Rg (.list u) (.list v)=Rc u v from fun _ _=>rfl]
 exact congr (congrArg or (a.trans (decide_eq_decide.mpr eq_comm))) (b.trans (decide_eq_decide.mpr eq_comm))
section
variable {e:En} {N:List Nd} {Xz:List AO} {s:Int} {c:Nat→Int} {B:Int×Int} {X:SF} {T:Tm} {a:Nat} {na:Nd} {b dp:PV} {o5 o6 o7 o8 o9:Option PV}
noncomputable abbrev eS(a:Nat)(b dp:PV)(l:Sl):Sl:=some (.ref 13)::some (pI (a:Nat))::some b::some dp::l
theorem rwa(r:Rw Xz):aE 1002 0 (aa 0) (some (.ref 13)::l) (bk e N Xz)=some (.ref 1,bk e N Xz):=jI (i:=13) rfl (by rw[show(bk e N Xz)[13]?=_ from r];rfl)
theorem BB(r:Rw Xz):aE 1002 1 (aa 0) (some (.ref 13)::l) (bk e N Xz)=some (pI 1,bk e N Xz):=jI (i:=13) rfl (by rw[show(bk e N Xz)[13]?=_ from r];rfl)
theorem Al(r:Rw Xz):aE 1002 2 (aa 0) (some (.ref 13)::l) (bk e N Xz)=some (pI 2,bk e N Xz):=jI (i:=13) rfl (by rw[show(bk e N Xz)[13]?=_ from r];rfl)
theorem IA(r:Rw Xz)(hB:Sz 10000 10000 B):aY (vQ X (eS a b dp [some (.dat (b6 [] B)),o5,o6,o7,o8,o9]) (bk e N Xz))=some (pI (if B.1=0 then 1 else 2),bk e N Xz):=by
 unfold vQ
 rw[aS (dJ ((bO rfl).trans (C0 hB)))]
 dsimp only[RG]
 have t1:ao (jn false (aa 5)) (eS a b dp [some (.dat (b6 [] B)),some (.dat (.bool (decide (B.1=0)))),o6,o7,o8,o9]) (bk e N Xz)=some (true,bk e N Xz):=rfl
 have b1:aC 688 ki (aE 1002 0 (aa 0)) (ac (aa 5) af) (eS a b dp [some (.dat (b6 [] B)),some (.dat (.bool (decide (B.1=0)))),o6,o7,o8,o9]) (bk e N Xz)=some (pI (if B.1=0 then 1 else 2),bk e N Xz):=by
  refine(bn (i:=1) (ps:=[.dat (.bool (decide (B.1=0)))]) (XA:=bk e N Xz) (rwa r) rfl rfl).trans ?_
  by_cases h:B.1=0
  ·rw[decide_eq_true h,if_pos h];rfl
  ·rw[decide_eq_false h,if_neg h];rfl
 rw[bx ((eJ t1).trans (bx (cp b1)))]
 rfl
theorem BC(r:Rw Xz)(h2:N.length≤1000)(cn:Cn T B)(hs:s=1∨s=2)(hN:∀ x∈T,∃ n,N[x.1]?=some n∧n.sort=s):
  (s=1∧B.2≠1→aY (vQ X (eS a b dp [some (.dat (b6 T B)),o5,o6,o7,o8,o9]) (bk e N Xz))=some (pI 2,bk e N Xz)) ∧
  (¬ (s=1∧B.2≠1)→vQ X (eS a b dp [some (.dat (b6 T B)),o5,o6,o7,o8,o9]) (bk e N Xz)=(uh X) (eS a b dp [some (.dat (b6 T B)),some (.dat .none),some (.dat (.tuple (tD T))),some (.dat (.str "=")),some (.dat (Qp B)),o9]) (bk e N Xz)):=by
 have hl:=cn.hw.few
 have t1:ao (jn false (aa 5)) (eS a b dp [some (.dat (b6 T B)),some (.dat .none),o6,o7,o8,o9]) (bk e N Xz)=some (false,bk e N Xz):=rfl
 have t2:ao (aI gv (ac (aE 1002 0 (aa 0)) (ac (aa 4) af))) (eS a b dp [some (.dat (b6 T B)),some (.dat .none),o6,o7,o8,o9]) (bk e N Xz)=some (decide (s=1)&&!(B.2==1),bk e N Xz) :=
  bB ((bO (cC (rwa r) rfl)).trans (C2 h2 cn hs hN))
 have u1:gC [6,7,8] (aa 4) (eS a b dp [some (.dat (b6 T B)),some (.dat .none),o6,o7,o8,o9]) (bk e N Xz)=some (.next,eS a b dp [some (.dat (b6 T B)),some (.dat .none),some (.dat (.tuple (tD T))),some (.dat (.str "=")),some (.dat (Qp B)),o9],bk e N Xz):=rfl
 have st0:vQ X (eS a b dp [some (.dat (b6 T B)),o5,o6,o7,o8,o9]) (bk e N Xz)=ah (bJ (ao (aI gv (ac (aE 1002 0 (aa 0)) (ac (aa 4) af)))) (ah (aW (aE 1002 2 (aa 0))) az) az) (ah (gC [6,7,8] (aa 4)) (uh X)) (eS a b dp [some (.dat (b6 T B)),some (.dat .none),o6,o7,o8,o9]) (bk e N Xz):=by
  unfold vQ
  rw[aS (dJ ((bO rfl).trans (vP cn.ne nA)))]
  rw[aS (cr t1)]
 constructor
 ·intro h
  rw[show(decide (s=1)&&!(B.2==1))=true from by simp[h.1,h.2]] at t2
  rw[st0,bx ((eJ t2).trans (bx (cp (Al r))))]
  rfl
 ·intro h
  rw[show(decide (s=1)&&!(B.2==1))=false from by
   by_cases h1:s=1
   ·have:B.2=1:=QG fun q=>h ⟨h1,q⟩
    simp[this]
   ·simp[h1]] at t2
  rw[st0,aS (cr t2),aS u1]
theorem vR(hl:T.length≤3):F3 (eS a b dp (some (.dat (b6 T B))::some (.dat .none)::some (.dat (.tuple (tD T)))::some (.dat (.str "="))::some (.dat (Qp B))::l)) (bk e N Xz)=some (decide (B.1=0)&&lL (T.map (·.2)),bk e N Xz):=by
 have t0:ao (am (aP fun a b=>a==b) (aq (aa 8) (ae (.int 0))) (ae (.int 0))) (eS a b dp (some (.dat (b6 T B))::some (.dat .none)::some (.dat (.tuple (tD T)))::some (.dat (.str "="))::some (.dat (Qp B))::l)) (bk e N Xz)=some (decide (B.1=0),bk e N Xz) :=
  bB (aV (a:=.int B.1) (b:=.int 0) rfl rfl (by show some (QT (B.1==0))=_;congr 2))
 by_cases h:B.1=0
 ·rw[decide_eq_true h] at t0 ⊢
  refine(i8 t0).trans (bB (aV (a:=.list (tD T |>.map fun x=>match x with
   | .tuple [_,y]=>y
   | _=>x)) (b:=.tuple [.list [Q 1 1,Q (-1) 1],.list [Q (-1) 1,Q 1 1]]) (XA:=bk e N Xz) (pi (fun ρ=>∃ o o',ρ=[o,o']) _ (gB (.inr rfl) (by rw[Qs];exact nA)) ⟨none,none,rfl⟩ (fun x hx ρ z=>jW z fun o o' q=>by
    refine aH (QL.mp hx) fun y hy XX=>?_
    subst XX
    subst q
    exact⟨_,rfl,⟨_,_,rfl⟩,rfl⟩) (by rw[Qs];exact nA)) rfl ?_))
  rw[Ra]
  have:=Lw (T.map (·.2)) (by rw[Qs];assumption)
  rw[Ra] at this
  exact this
 ·rw[decide_eq_false h] at t0 ⊢
  exact my t0
end
section
variable {e:En} {N:List Nd} {Xz:List AO} {s:Int} {c:Nat→Int} {B:Int×Int} {X:SF} {T:Tm} {a:Nat} {na:Nd} {b dp:PV} {o9:Option PV}
noncomputable abbrev eR(a:Nat)(b dp:PV)(T:Tm)(B:Int×Int)(o9:Option PV):Sl:=eS a b dp [some (.dat (b6 T B)),some (.dat .none),some (.dat (.tuple (tD T))),some (.dat (.str "=")),some (.dat (Qp B)),o9]
theorem Hd(r:Rw Xz)(h2:N.length≤1000)(ha:N[a]?=some na):aC 688 eI (aE 1002 0 (aa 0)) (ac (aa 1) af) (some (.ref 13)::some (pI (a:Nat))::l) (bk e N Xz)=some (pI na.sort,bk e N Xz) :=
 (bn (i:=1) (ps:=[pI (a:Nat)]) (XA:=bk e N Xz) (rwa r) rfl rfl).trans (vL h2 ha)
theorem He(r:Rw Xz)(o:OK s N)(hl:N.length≤880)(ha:N[a]?=some na)(hna:na.sort=s)(XU:cu c≠[])(hb:∀ u,In 1000 (c u))(hw:s=1→∀ u,tri u=true→(be (c u)).2=1)(hB:Sm B)(hBw:s=1→B.2=1):
  ∃ ext,aY (ah Ls az (eS a b dp (some (.dat (b6 (cQ c) B))::l)) (bk e N Xz))=some (pI ((run (eA s c B) N).1:Nat),bk e (run (eA s c B) N).2 (Xz++ext)):=by
 refine bM (Lq (e:=e) (Xz:=Xz) o hl XU hb hw hB hBw) fun ext h=>?_
 subst hna
 refine⟨ext,?_⟩
 rw[bx (cp ((bO (cC (rwa r) (cC rfl (cP (Hd r nA ha))))).trans h))]
 rfl
theorem Am(hl:T.length≤3):(ao (am (aP fun a b=>a==b) (dw (ac (aa 6) af)) (ae (.int 1)))) (eS a b dp (some (.dat (b6 T B))::some (.dat .none)::some (.dat (.tuple (tD T)))::l)) (bk e N Xz)=some (decide (T.length=1),bk e N Xz) :=
 bB (aV (Ek (T:=T) (i:=6) nA rfl) rfl (by
  show some (QT (((T.length:Nat):Int)==1))=_
  congr 2
  by_cases h:T.length=1
  ·rw[h];rfl
  ·rw[decide_eq_false h]
   have:¬ ((T.length:Nat):Int)=1:=by lia
   simpa using this))
theorem F4(r:Rw Xz)(o:OK s N)(hl:N.length≤990)(hp:(decide (B.1=0)&&lL [x0,x1])=true)(h0:N[t0]?=some n0)(h1:N[t1]?=some n1)(hs:n1.sort=n0.sort)(XU:t0≠t1):
  aY (uh X (eR a b dp [(t0,x0),(t1,x1)] B o9) (bk e N Xz))=some (pI ((run (.mk (bU t0 t1) .ret) N).1:Nat),bk e (run (.mk (bU t0 t1) .ret) N).2 Xz):=by
 unfold uh
 have t:=vR (e:=e) (N:=N) (Xz:=Xz) (a:=a) (b:=b) (dp:=dp) (T:=[(t0,x0),(t1,x1)]) (B:=B) (l:=[o9]) (by simp)
 rw[show(decide (B.1=0)&&lL ([(t0,x0),(t1,x1)].map (·.2)))=true from hp] at t
 rw[bx ((eJ t).trans (bx (cp ((bn (i:=1) (ps:=[pI (t0:Nat),pI (t1:Nat)]) (XA:=bk e N Xz) (rwa r) rfl rfl).trans (K7 (by have:=o.len;exact nB) nA h0 h1 hs XU)))))]
 rfl
theorem F5(r:Rw Xz)(o:OK s N)(hl:N.length≤880)(ha:N[a]?=some na)(hna:na.sort=s)(hp:(decide (B.1=0)&&lL ((cQ c).map (·.2)))=false)(h1:(cQ c).length≠1)(XU:cu c≠[])(hb:∀ u,In 1000 (c u))(hw:s=1→∀ u,tri u=true→(be (c u)).2=1)(hB:Sm B)(hBw:s=1→B.2=1):
  ∃ ext,aY (uh X (eR a b dp (cQ c) B o9) (bk e N Xz))=some (pI ((run (eA s c B) N).1:Nat),bk e (run (eA s c B) N).2 (Xz++ext)):=by
 have kT:(cQ c).length≤3:=by rw[cQ,Qs];exact Q6 _ [4,5,7]
 obtain⟨ext,h⟩:=He (e:=e) (b:=b) (dp:=dp) (l:=[some (.dat .none),some (.dat (.tuple (tD (cQ c)))),some (.dat (.str "=")),some (.dat (Qp B)),o9]) r o hl ha hna XU hb hw hB hBw
 refine⟨ext,?_⟩
 unfold uh
 have t:=vR (e:=e) (N:=N) (Xz:=Xz) (a:=a) (b:=b) (dp:=dp) (T:=cQ c) (B:=B) (l:=[o9]) kT
 rw[hp] at t
 have t2:=Am (e:=e) (N:=N) (Xz:=Xz) (a:=a) (b:=b) (dp:=dp) (T:=cQ c) (B:=B) (l:=[some (.dat (.str "=")),some (.dat (Qp B)),o9]) kT
 rw[decide_eq_false h1] at t2
 rw[aS (cr t),aS (cr t2)]
 exact h
theorem BE(r:Rw Xz)(o:OK s N)(hl:N.length≤880)(ha:N[a]?=some na)(hna:na.sort=s)(hu:N[u]?=some nu)(hlay:Qv (.str nu.op)=true)(hB:Sz 10000 98 B)(hBw:s=1→B.2=1)(hr:fF B.1 B.2=B):
  Lr X (eR a b dp [(u,(1,1))] B o9) (bk e N Xz)=ah (bJ (ao (am bS (aC 688 fj (aE 1002 0 (aa 0)) (ac (aq (aq (aa 6) (ae (.int 0))) (ae (.int 0))) af)) (ae (.str "ite")))) X az) az (eR a b dp [(u,(1,1))] B (some (pI ((aU N (aM B s)).1:Nat)))) (bk e (aU N (aM B s)).2 Xz) ∧
  (ao (am bS (aC 688 fj (aE 1002 0 (aa 0)) (ac (aq (aq (aa 6) (ae (.int 0))) (ae (.int 0))) af)) (ae (.str "ite")))) (eR a b dp [(u,(1,1))] B (some (pI ((aU N (aM B s)).1:Nat)))) (bk e (aU N (aM B s)).2 Xz)=some (nu.op==("ite":Str),bk e (aU N (aM B s)).2 Xz):=by
 subst hna
 have hsm:Sm B:=hB.sm (by decide) (by decide)
 have d1:aI ro (ac (aa 8) (ac (aq (aq (aa 6) (ae (.int 0))) (ae (.int 1))) af)) (eR a b dp [(u,(1,1))] B o9) (bk e N Xz)=some (.dat (Qp B),bk e N Xz):=(bO rfl).trans (Le hB hr)
 have r1:(bp (ac (bp (ac (bp (ac (aq (aq (aa 6) (ae (.int 0))) (ae (.int 0))) (ac (ae (.tuple [.int 1,.int 1])) af))) af)) (ac (aa 7) (ac (aI ro (ac (aa 8) (ac (aq (aq (aa 6) (ae (.int 0))) (ae (.int 1))) af))) af)))) (eR a b dp [(u,(1,1))] B o9) (bk e N Xz)=some (.dat (b6 [(u,(1,1))] B),bk e N Xz):=by
  have i1:bp (ac (bp (ac (aq (aq (aa 6) (ae (.int 0))) (ae (.int 0))) (ac (ae (.tuple [.int 1,.int 1])) af))) af) (eR a b dp [(u,(1,1))] B o9) (bk e N Xz)=some (.dat (.tuple (tD [(u,(1,1))])),bk e N Xz):=rfl
  have:=cC i1 (cC (f:=aa 7) (p:=.dat (.str "=")) (XA:=bk e N Xz) rfl (cP d1))
  unfold bp at this ⊢
  rw[this]
  rfl
 have l2:=fB N (aM B na.sort)
 have v1:aC 688 fY (aE 1002 0 (aa 0)) (ac (aq (aa 4) (ae (.int 2))) (ac (aC 688 eI (aE 1002 0 (aa 0)) (ac (aa 1) af)) af)) (eR a b dp [(u,(1,1))] B o9) (bk e N Xz)=some (pI ((aU N (aM B na.sort)).1:Nat),bk e (aU N (aM B na.sort)).2 Xz) :=
  (bn (i:=1) (ps:=[.dat (Qp B),pI na.sort]) (XA:=bk e N Xz) (rwa r) rfl (cC rfl (cP (Hd r nA ha)))).trans (yk (by have:=o.len;exact nB) nA hsm o.so hBw)
 constructor
 ·show ah (bQ 4 _) _ _ _=_
  refine(aS (dJ r1)).trans ?_
  refine(aS (dJ v1)).trans ?_
  rfl
 ·exact bB (aV (a:=.str nu.op) (b:=.str "ite") ((bn (i:=1) (ps:=[pI (u:Nat)]) (XA:=bk e (aU N (aM B na.sort)).2 Xz) (rwa r) rfl rfl).trans (uO yq (b7 (db ..) hu))) rfl (gQ hlay gl))
theorem BF(r:Rw Xz)(o:OK s N)(hl:N.length≤870)(ha:N[a]?=some na)(hna:na.sort=s)(hT:cQ c=[(u,(1,1))])(hu:N[u]?=some nu)(hop:nu.op=("app":Str))(hb:∀ u,In 1000 (c u))(hw:s=1→∀ u,tri u=true→(be (c u)).2=1)(hB:Sz 10000 98 B)(hBw:s=1→B.2=1)(hr:fF B.1 B.2=B):
  ∃ ext,aY (uh X (eR a b dp (cQ c) B o9) (bk e N Xz))=some (pI ((run (.mk (aM B s) fun _=>eA s c B) N).1:Nat),bk e (run (.mk (aM B s) fun _=>eA s c B) N).2 (Xz++ext)):=by
 have l2:=fB N (aM B s)
 have XU:cu c≠[]:=fun q=>by rw[cQ,q] at hT;cases hT
 obtain⟨p1,p2⟩:=BE (e:=e) (b:=b) (dp:=dp) (X:=X) (o9:=o9) r o nA ha hna hu (by rw[hop];exact fQ) hB hBw hr
 obtain⟨ext,h⟩:=He (e:=e) (a:=a) (b:=b) (dp:=dp) (l:=[some (.dat .none),some (.dat (.tuple (tD (cQ c)))),some (.dat (.str "=")),some (.dat (Qp B)),some (pI ((aU N (aM B s)).1:Nat))]) r (o.add (aM B s)) yq (b7 (db ..) ha) hna XU hb hw (hB.sm (by decide) (by decide)) hBw
 refine⟨ext,?_⟩
 rw[hop] at p2
 have p3:(ao (am bS (aC 688 fj (aE 1002 0 (aa 0)) (ac (aq (aq (aa 6) (ae (.int 0))) (ae (.int 0))) af)) (ae (.str "ite")))) (eR a b dp [(u,(1,1))] B (some (pI ((aU N (aM B s)).1:Nat)))) (bk e (aU N (aM B s)).2 Xz)=some (false,bk e (aU N (aM B s)).2 Xz):=p2
 show _=some (pI ((run (eA s c B) (aU N (aM B s)).2).1:Nat),bk e (run (eA s c B) (aU N (aM B s)).2).2 (Xz++ext))
 rw[← h,hT]
 unfold uh
 have t:=vR (e:=e) (N:=N) (Xz:=Xz) (a:=a) (b:=b) (dp:=dp) (T:=[(u,(1,1))]) (B:=B) (l:=[o9]) (by simp)
 rw[show(decide (B.1=0)&&lL ([(u,((1:Int),(1:Int)))].map (·.2)))=false from by rw[show lL ([(u,((1:Int),(1:Int)))].map (·.2))=false from rfl];simp] at t
 have t2:=Am (e:=e) (N:=N) (Xz:=Xz) (a:=a) (b:=b) (dp:=dp) (T:=[(u,(1,1))]) (B:=B) (l:=[some (.dat (.str "=")),some (.dat (Qp B)),o9]) (by simp)
 have t2:(ao (am (aP fun a b=>a==b) (dw (ac (aa 6) af)) (ae (.int 1)))) (eR a b dp [(u,(1,1))] B o9) (bk e N Xz)=some (true,bk e N Xz):=t2
 rw[aS (cr t),aS ((eJ t2).trans (p1.trans ((aS (cr p3)).trans rfl)))]
theorem Es (r:Rw Xz) (o:OK s N) (hl:N.length≤870) (ha:N[a]?=some na) (hna:na.sort=s) (hu:N[u]?=some nu) (hop:nu.op=("ite":Str)) (hB:Sz 10000 98 B) (hBw:s=1→B.2=1) (hr:fF B.1 B.2=B)
  (hX:X (eR a b dp [(u,(1,1))] B (some (pI ((aU N (aM B s)).1:Nat)))) (bk e (aU N (aM B s)).2 Xz)=some (.ret p,Yg,XK)) :
  aY (uh X (eR a b dp [(u,(1,1))] B o9) (bk e N Xz))=some (p,XK):=by
 refine bA (BE (e:=e) (b:=b) (dp:=dp) (X:=X) (o9:=o9) r o (by lia) ha hna hu (by rw[hop];exact gl) hB hBw hr) fun p1 p2=>?_
 rw[hop] at p2
 have p3:(ao (am bS (aC 688 fj (aE 1002 0 (aa 0)) (ac (aq (aq (aa 6) (ae (.int 0))) (ae (.int 0))) af)) (ae (.str "ite")))) (eR a b dp [(u,(1,1))] B (some (pI ((aU N (aM B s)).1:Nat)))) (bk e (aU N (aM B s)).2 Xz)=some (true,bk e (aU N (aM B s)).2 Xz):=p2
 unfold uh
 have t:=vR (e:=e) (N:=N) (Xz:=Xz) (a:=a) (b:=b) (dp:=dp) (T:=[(u,(1,1))]) (B:=B) (l:=[o9]) (by simp)
 rw[show(decide (B.1=0)&&lL ([(u,((1:Int),(1:Int)))].map (·.2)))=false from by rw[show lL ([(u,((1:Int),(1:Int)))].map (·.2))=false from rfl];simp] at t
 have t2:=Am (e:=e) (N:=N) (Xz:=Xz) (a:=a) (b:=b) (dp:=dp) (T:=[(u,(1,1))]) (B:=B) (l:=[some (.dat (.str "=")),some (.dat (Qp B)),o9]) (by simp)
 have t2:(ao (am (aP fun a b=>a==b) (dw (ac (aa 6) af)) (ae (.int 1)))) (eR a b dp [(u,(1,1))] B o9) (bk e N Xz)=some (true,bk e N Xz):=t2
 rw[aS (cr t),bx ((eJ t2).trans (p1.trans (bx ((eJ p3).trans hX))))]
 rfl
end
noncomputable def bz(t:Nat):Nd:=⟨"not",[(t:Int)],0,.inl 0⟩
theorem po:Qv (.str "true")=true:=by decide +kernel
theorem pZ:Qv (.str "false")=true:=by decide +kernel
section
variable {e:En} {N N':List Nd} {Xz:List AO} {s:Int} {t:Nat} {n:Nd} {ρ:Sl} {f g:EF}
theorem vS(h1:1≤N.length)(h2:N.length≤990)(ht:N[t]?=some n)(hs:n.sort=0)(hl:Qv (.str n.op)=true)(hn:n.op≠("not":Str))(t1:t≠1)(t2:t≠2):fO [.ref 1,pI (t:Nat)] (bk e N Xz)=some (pI ((aU N (bz t)).1:Nat),bk e (aU N (bz t)).2 Xz):=by
 show aY (oQ [some (.ref 1),some (pI (t:Nat))] (bk e N Xz))=_
 unfold oQ
 have w:=vM (e:=e) (Xz:=Xz) (by lia:N.length≤1000) ht "not"
 rw[hs] at w
 rw[aS (nP ((bn (i:=1) (ps:=[pI (t:Nat),pI 0,.dat (.str "not")]) (XA:=bk e N Xz) rfl rfl rfl).trans w))]
 rw[aS (cr (bB (aV (r:=.bool false) (zx (by lia) ht rfl rfl) rfl (by rw[gQ hl hZ];simpa using hn))))]
 rw[aS (cr (bB (aV (a:=.int (t:Nat)) (b:=.int 1) (r:=.bool false) rfl rfl (by show some (QT (((t:Nat):Int)==1))=_;rw[show(((t:Nat):Int)==1)=false from by simp;lia]))))]
 rw[aS (cr (bB (aV (a:=.int (t:Nat)) (b:=.int 2) (r:=.bool false) rfl rfl (by show some (QT (((t:Nat):Int)==2))=_;rw[show(((t:Nat):Int)==2)=false from by simp;lia]))))]
 rw[bx (cp ((bn (i:=1) (ps:=[.dat (.str "not"),.dat (.tuple ((bz t).args.map .int)),pI 0,pI 0]) (XA:=bk e N Xz) rfl rfl rfl).trans (pd (n:=bz t) hZ h1 (by lia))))]
 rfl
theorem IB(h2:N.length≤990)(ht:N[t]?=some (bz k)):fO [.ref 1,pI (t:Nat)] (bk e N Xz)=some (pI (k:Nat),bk e N Xz):=by
 show aY (oQ [some (.ref 1),some (pI (t:Nat))] (bk e N Xz))=_
 unfold oQ
 have w:=vM (e:=e) (Xz:=Xz) (by lia:N.length≤1000) ht "not"
 rw[aS (nP ((bn (i:=1) (ps:=[pI (t:Nat),pI 0,.dat (.str "not")]) (XA:=bk e N Xz) rfl rfl rfl).trans w))]
 rw[bx ((eJ (bB (aV (r:=.bool true) (zx (by lia) ht rfl rfl) rfl (by show bS (.str "not") (.str "not")=_;rw[gQ hZ hZ];rfl)))).trans (bx (cp (gW (k:=0) (K5 (by lia) ht rfl rfl) rfl rfl))))]
 rfl
theorem M7(h1:f ρ Xx=some (pI (k:Nat),XA))(h2:g ρ XA=some (.ref i,XA))(h3:XA[i]?=some (AO.idict D))(h4:gu D (k:Nat)=none):vq f g ρ Xx=some (.dat (.bool false),XA):=by
 unfold vq
 rw[h1]
 dsimp only[pP,dh,d7,mM,QQ]
 rw[h2]
 dsimp only
 rw[h3]
 dsimp only
 rw[h4]
 rfl
noncomputable abbrev NU:TF:=(ao (am (aP fun a b=>decide (b<a)) (dw (ac (aa 6) af)) (ae (.int 0))))
noncomputable abbrev NV:SF:=(ah (bQ 7 (d8 "list" vx (aa 6) af)) (ah (bJ (ao (am (aP fun a b=>a==b) (aa 7) (aa 3))) (ah (fun ρ Xx=>some (.cont,ρ,Xx)) az) az) (ah (bJ (jz (ao (am (aP fun a b=>a==b) (aa 7) (aa 4))) (ao (vq (aC 688 fO (aE 1002 0 (aa 0)) (ac (aa 7) af)) (aa 5)))) (ah (aW (ae .none)) az) az) (ah (bJ (ao (am bS (aC 688 fj (aE 1002 0 (aa 0)) (ac (aa 7) af)) (aa 1))) (ah fq az) (ah (gj (ae (.bool true)) (aa 5) (aa 7)) az)) az))))
noncomputable abbrev fR(Xz:List AO)(op:Str)(p:PV)(uu ss:Int)(o7:Option PV):Sl:=[some (.ref 13),some (.dat (.str op)),some p,some (pI uu),some (pI ss),some (.ref (Xz.length+11)),some (.ref (Xz.length+1+11)),o7]
noncomputable abbrev fM(Xz:List AO)(D:List (Int×PV))(S:List PV):List AO:=Xz++[AO.idict D,AO.list S]
theorem Lx:(bk e N (fM Xz D S))[Xz.length+11]?=some (AO.idict D):=by
 show(fM Xz D S)[Xz.length]?=_
 simp
theorem F6:(bk e N (fM Xz D S))[Xz.length+1+11]?=some (AO.list S):=by
 show(fM Xz D S)[Xz.length+1]?=_
 simp
theorem M8:(bk e N (fM Xz D S)).set (Xz.length+11) (AO.idict D')=bk e N (fM Xz D' S):=by
 show bk e N ((fM Xz D S).set Xz.length (AO.idict D'))=_
 simp[fM,Q2]
theorem M9:(bk e N (fM Xz D S)).set (Xz.length+1+11) (AO.list S')=bk e N (fM Xz D S'):=by
 show bk e N ((fM Xz D S).set (Xz.length+1) (AO.list S'))=_
 simp[fM,Q2]
theorem C3:NU (fR Xz op p uu ss o7) (bk e N (fM Xz D S))=some (decide (0<S.length),bk e N (fM Xz D S)):=by
 refine bB (aV (a:=.int (S.length:Nat)) ?_ rfl ?_)
 ·show(ou (bk e N (fM Xz D S))[Xz.length+1+11]? (fun l=>some l.length) fun l=>some l.length).map _=_
  rw[F6]
  simp[ou]
 ·show some (QT (decide ((0:Int)<(S.length:Nat))))=_
  congr 3
  simp
theorem Et (r:Rw Xz) (h2:N'.length≤1000) (ht:N'[t]?=some n) (hl:Qv (.str n.op)=true) (hlo:Qv (.str op)=true) (ho:n.op≠op) (hu:(t:Int)≠uu) (hs:(t:Int)≠ss)
  (hn:∀ R,fO [.ref 1,pI (t:Nat)] (bk e N R)=some (pI (nt:Nat),bk e N' R)) (hd:gu D (nt:Nat)=none) (hD:D.length<1000) :
  NV (fR Xz op p uu ss o7) (bk e N (fM Xz D (S++[pI (t:Nat)])))=some (.next,fR Xz op p uu ss (some (pI (t:Nat))),bk e N' (fM Xz (oE D (t:Nat) (.dat (.bool true))) S)):=by
 have a1:d8 "list" vx (aa 6) af (fR Xz op p uu ss o7) (bk e N (fM Xz D (S++[pI (t:Nat)])))=some (pI (t:Nat),bk e N (fM Xz D S)):=by
  refine(wT (i:=Xz.length+1+11) (ps:=[]) (XA:=bk e N (fM Xz D (S++[pI (t:Nat)]))) rfl (by rw[F6];rfl) rfl).trans ?_
  unfold vx
  rw[F6]
  dsimp only[d7,QQ]
  rw[List.getLast?_concat,List.dropLast_concat]
  dsimp only
  rw[M9]
 refine(aS (dJ a1)).trans ?_
 have c1:ao (am (aP fun a b=>a==b) (aa 7) (aa 3)) (fR Xz op p uu ss (some (pI (t:Nat)))) (bk e N (fM Xz D S))=some (false,bk e N (fM Xz D S)) :=
  bB (aV (a:=.int (t:Nat)) (b:=.int uu) rfl rfl (by show some (QT (((t:Nat):Int)==uu))=_;rw[show(((t:Nat):Int)==uu)=false from by simpa using hu]))
 have c2:ao (am (aP fun a b=>a==b) (aa 7) (aa 4)) (fR Xz op p uu ss (some (pI (t:Nat)))) (bk e N (fM Xz D S))=some (false,bk e N (fM Xz D S)) :=
  bB (aV (a:=.int (t:Nat)) (b:=.int ss) rfl rfl (by show some (QT (((t:Nat):Int)==ss))=_;rw[show(((t:Nat):Int)==ss)=false from by simpa using hs]))
 have rr:∀ x,Rw (Xz++x):=r.ext
 have c3:ao (vq (aC 688 fO (aE 1002 0 (aa 0)) (ac (aa 7) af)) (aa 5)) (fR Xz op p uu ss (some (pI (t:Nat)))) (bk e N (fM Xz D S))=some (false,bk e N' (fM Xz D S)):=by
  refine bB ?_
  have m:aC 688 fO (aE 1002 0 (aa 0)) (ac (aa 7) af) (fR Xz op p uu ss (some (pI (t:Nat)))) (bk e N (fM Xz D S))=some (pI (nt:Nat),bk e N' (fM Xz D S)):=(bn (i:=1) (ps:=[pI (t:Nat)]) (XA:=bk e N (fM Xz D S)) (rwa (rr _)) rfl rfl).trans (hn _)
  exact M7 m rfl Lx hd
 have c4:ao (am bS (aC 688 fj (aE 1002 0 (aa 0)) (ac (aa 7) af)) (aa 1)) (fR Xz op p uu ss (some (pI (t:Nat)))) (bk e N' (fM Xz D S))=some (false,bk e N' (fM Xz D S)) :=
  bB (aV (a:=.str n.op) (b:=.str op) ((bn (i:=1) (ps:=[pI (t:Nat)]) (XA:=bk e N' (fM Xz D S)) (rwa (rr _)) rfl rfl).trans (uO h2 ht)) rfl (by rw[gQ hl hlo];simpa using ho))
 have s1:=sX (fv:=ae (.bool true)) (fo:=aa 5) (fi:=aa 7) (ρ:=fR Xz op p uu ss (some (pI (t:Nat)))) (Xx:=bk e N' (fM Xz D S)) (p:=.ref (Xz.length+11)) (k:=(t:Nat)) (q:=.dat (.bool true)) (XK:=bk e N' (fM Xz (oE D (t:Nat) (.dat (.bool true))) S)) rfl rfl rfl (by
  unfold re
  dsimp only[ou,QQ]
  rw[Lx]
  dsimp only
  rw[if_pos (by lia),M8])
 refine(aS (cr c1)).trans ((aS (cr ((qo c2).trans c3))).trans ((aS ((cr c4).trans ((aS s1).trans rfl))).trans ?_))
 rfl
end
noncomputable def dS(op:Str)(a b:Nat):Nd:=⟨op,[((min a b:Nat):Int),((max a b:Nat):Int)],0,.inl 0⟩
theorem Hf{p q:Nat}:kq [(p:Int),(q:Int)]=[((min p q:Nat):Int),((max p q:Nat):Int)]:=by
 refine(uy ?_ ?_).symm
 ·by_cases h:p≤q
  ·rw[T5 h,TL h]
  ·rw[TM (by lia),T6 (by lia)]
   exact List.Perm.swap ..
 ·simp;lia
structure Bo (op other:Str) (uu ss:Int):Prop where
 is:(op=("and":Str)∧other=("or":Str)∧uu=1∧ss=2)∨(op=("or":Str)∧other=("and":Str)∧uu=2∧ss=1)
theorem Bo.lay(b:Bo op other uu ss):Qv (.str op)=true∧Qv (.str other)=true:=by
 rcases b.is with⟨rfl,rfl,_⟩ | ⟨rfl,rfl,_⟩
 ·exact⟨iK,pf⟩
 ·exact⟨pf,iK⟩
theorem Ly(ha:Qv (.str a)=true)(hb:Qv (.str b)=true):mW (.str a) (.str b)=some (.bool (!(a==b))):=by
 unfold mW
 rw[if_pos]
 ·simp[Rg]
 ·simp[Q8,ha,hb,RO]
theorem vT(h1:t ρ Xx=some (true,XA))(h2:f ρ XA=some (.next,X6,XB))(h3:eH t f n X6 XB=r):eH t f (n+1) ρ Xx=r:=by
 rw[oZ]
 rw[h1]
 dsimp only[lJ]
 rw[h2]
 exact h3
theorem Eu(h1:t ρ Xx=some (false,XA)):eH t f (n+1) ρ Xx=some (.next,ρ,XA):=by
 rw[oZ]
 rw[h1]
theorem Ew(h1:t ρ Xx=some (true,XA))(h2:f ρ XA=some (.ret p,X6,XB)):eH t f (n+1) ρ Xx=some (.ret p,X6,XB):=by
 rw[oZ]
 rw[h1]
 dsimp only[lJ]
 rw[h2]
section
variable {e:En} {N N1 N2:List Nd} {Xz:List AO} {p q np nq:Nat} {n m:Nd} {ρ:Sl} {op other:Str} {uu ss:Int}
noncomputable abbrev jt(p q:Nat):List (Int×PV):=[((p:Int),.dat (.bool true)),((q:Int),.dat (.bool true))]
structure Tw (e:En) (N N1 N2:List Nd) (op:Str) (p q np nq:Nat) (n m:Nd):Prop where
 len:N2.length≤980
 pre:N1 <+: N2
 atp:N1[p]?=some n
 atq:N2[q]?=some m
 layp:Qv (.str n.op)=true
 layq:Qv (.str m.op)=true
 nop:n.op≠("and":Str)∧n.op≠("or":Str)
 noq:m.op≠("and":Str)∧m.op≠("or":Str)
 big:3≤p∧3≤q∧p≠q∧nq≠p
 sp:n.sort=0∧m.sort=0
 hp:∀ R,fO [.ref 1,pI (p:Nat)] (bk e N R)=some (pI (np:Nat),bk e N1 R)
 hq:∀ R,fO [.ref 1,pI (q:Nat)] (bk e N1 R)=some (pI (nq:Nat),bk e N2 R)
theorem LA(r:Rw Xz)(bo:Bo op other uu ss)(w:Tw e N N1 N2 op p q np nq n m):
  sP [.ref 13,.dat (.str op),.dat (.list [.int (p:Int),.int (q:Int)])] (bk e N Xz)=some (.ref (Xz.length+11),bk e N2 (fM Xz (jt p q) [])):=by
 refine bA (bo.lay) fun lo lo'=>?_
 have l1:=tN w.pre
 have wl:=w.len
 have hnop:n.op≠op:=by rcases bo.is with⟨rfl,_⟩ | ⟨rfl,_⟩<;>first | exact w.nop.1 | exact w.nop.2
 have hmop:m.op≠op:=by rcases bo.is with⟨rfl,_⟩ | ⟨rfl,_⟩<;>first | exact w.noq.1 | exact w.noq.2
 have hus:uu≤2∧ss≤2:=by rcases bo.is with⟨_,_,h1,h2⟩ | ⟨_,_,h1,h2⟩<;>lia
 refine Dm (w.big) fun b1 b2 b3 b4=>?_
 show aY (za [some (.ref 13),some (.dat (.str op)),some (.dat (.list [.int (p:Int),.int (q:Int)])),none,none,none,none,none] (bk e N Xz))=_
 unfold za
 have ut:bp (ac (aE 1002 1 (aa 0)) (ac (aE 1002 2 (aa 0)) af)) [some (.ref 13),some (.dat (.str op)),some (.dat (.list [.int (p:Int),.int (q:Int)])),none,none,none,none,none] (bk e N Xz)=some (.dat (.tuple [.int 1,.int 2]),bk e N Xz):=by
  unfold bp
  rw[cC (BB r) (cP (Al r))]
  rfl
 have uf:bp (ac (aE 1002 2 (aa 0)) (ac (aE 1002 1 (aa 0)) af)) [some (.ref 13),some (.dat (.str op)),some (.dat (.list [.int (p:Int),.int (q:Int)])),none,none,none,none,none] (bk e N Xz)=some (.dat (.tuple [.int 2,.int 1]),bk e N Xz):=by
  unfold bp
  rw[cC (Al r) (cP (BB r))]
  rfl
 have tt:=gR (i:=1) (a:=op) (b:="and") (ρ:=[some (.ref 13),some (.dat (.str op)),some (.dat (.list [.int (p:Int),.int (q:Int)])),none,none,none,none,none]) (Xx:=bk e N Xz) rfl lo iK
 have u0:eV (ao (am bS (aa 1) (ae (.str "and")))) (bp (ac (aE 1002 1 (aa 0)) (ac (aE 1002 2 (aa 0)) af))) (bp (ac (aE 1002 2 (aa 0)) (ac (aE 1002 1 (aa 0)) af))) [some (.ref 13),some (.dat (.str op)),some (.dat (.list [.int (p:Int),.int (q:Int)])),none,none,none,none,none] (bk e N Xz)=some (.dat (.tuple [.int uu,.int ss]),bk e N Xz):=by
  rcases bo.is with⟨rfl,_,rfl,rfl⟩ | ⟨rfl,_,rfl,rfl⟩
  ·exact(ml tt).trans ut
  ·exact(j4 tt).trans uf
 have u1:gC [3,4] (eV (ao (am bS (aa 1) (ae (.str "and")))) (bp (ac (aE 1002 1 (aa 0)) (ac (aE 1002 2 (aa 0)) af))) (bp (ac (aE 1002 2 (aa 0)) (ac (aE 1002 1 (aa 0)) af)))) [some (.ref 13),some (.dat (.str op)),some (.dat (.list [.int (p:Int),.int (q:Int)])),none,none,none,none,none] (bk e N Xz)=some (.next,[some (.ref 13),some (.dat (.str op)),some (.dat (.list [.int (p:Int),.int (q:Int)])),some (pI uu),some (pI ss),none,none,none],bk e N Xz):=by
  unfold gC
  rw[u0]
  rfl
 rw[aS u1]
 have rv:Cy (ac (aa 2) af) [some (.ref 13),some (.dat (.str op)),some (.dat (.list [.int (p:Int),.int (q:Int)])),some (pI uu),some (pI ss),none,none,none] (bk e N (Xz++[AO.idict []]))=some (.ref (Xz.length+1+11),bk e N (fM Xz [] [pI (q:Nat),pI (p:Nat)])):=by
  show some (PV.ref ((Xz++[AO.idict []]).length+11),bk e N ((Xz++[AO.idict []])++[AO.list [pI (q:Nat),pI (p:Nat)]]))=_
  simp[fM]
 have t1:=ph (is:=[6,5]) (ρ:=[some (.ref 13),some (.dat (.str op)),some (.dat (.list [.int (p:Int),.int (q:Int)])),some (pI uu),some (pI ss),none,none,none]) (Yg:=fR Xz op (.dat (.list [.int (p:Int),.int (q:Int)])) uu ss none) (cC (f:=oC) (p:=.ref (Xz.length+11)) (Xx:=bk e N Xz) (XA:=bk e N (Xz++[AO.idict []])) rfl (cP rv)) rfl rfl
 rw[aS t1]
 have w1:=Et (e:=e) (N:=N) (N':=N1) (Xz:=Xz) (D:=[]) (S:=[pI (q:Nat)]) (p:=.dat (.list [.int (p:Int),.int (q:Int)])) (o7:=none) (t:=p) (op:=op) (uu:=uu) (ss:=ss) r zf w.atp w.layp lo hnop (by lia) (by lia) w.hp rfl (by simp)
 have w2:=Et (e:=e) (N:=N1) (N':=N2) (Xz:=Xz) (D:=[((p:Int),.dat (.bool true))]) (S:=[]) (p:=.dat (.list [.int (p:Int),.int (q:Int)])) (o7:=some (pI (p:Nat))) (t:=q) (op:=op) (uu:=uu) (ss:=ss) r nA w.atq w.layq lo hmop (by lia) (by lia) w.hq (by
  show(if(p:Int)=(nq:Int) then _ else none)=none
  rw[if_neg (by lia)]) (by simp)
 have d2:oE [((p:Int),PV.dat (.bool true))] (q:Nat) (.dat (.bool true))=jt p q:=by
  show(if(p:Int)=(q:Int) then _ else _)=_
  rw[if_neg (by lia)]
  rfl
 rw[d2] at w2
 have lp:eH NU NV 10 (fR Xz op (.dat (.list [.int (p:Int),.int (q:Int)])) uu ss none) (bk e N (fM Xz [] [pI (q:Nat),pI (p:Nat)]))=some (.next,fR Xz op (.dat (.list [.int (p:Int),.int (q:Int)])) uu ss (some (pI (q:Nat))),bk e N2 (fM Xz (jt p q) [])):=by
  refine vT C3 w1 (vT C3 w2 (Eu C3))
 rw[aS lp]
 rfl
end
section
variable {e:En} {N N1 N2:List Nd} {Xz:List AO} {p q np nq:Nat} {n m:Nd} {ρ:Sl} {op other:Str} {uu ss:Int}
theorem xE(h:f ρ Xx=some (.ref i,Xx))(hi:Xx[i]?=some (AO.idict l))(hl:l.length<64):je (ac f af) ρ Xx=some (.dat (.list ((kq (l.map (·.1))).map .int)),Xx):=by
 unfold je
 rw[cP h]
 dsimp only[pP,dh,d7,QQ]
 rw[hi]
 dsimp only
 rw[if_pos hl]
theorem LB(r:Rw R)(bo:Bo op other uu ss)(w:Tw e N N1 N2 op p q np nq n m)(hi:R[i]?=some (AO.idict (jt p q))):
  m8 [.ref 13,.dat (.str other),.ref (i+11)] (bk e N2 R)=some (.ref (R.length+11),bk e N2 (R++[AO.list (tP [min p q,max p q])])):=by
 revert e N N1 N2 p q np nq n m op other uu ss R i
 refine @mG _ _ _ _ _ _ _ _ _ nI ?_
 generalize q1 _=e,q2 _=N,q3 _=N1,q4 _=N2,q5 _=p,q6 _=q,q7 _=np,qe _=nq
 refine @mG _ _ _ _ _ _ _ _ _ (bi Bt (bi Bt nI)) ?_
 generalize q1 _=n,q2 _=m,q3 _=op,q4 _=other,q5 _=uu,q6 _=ss,q7 _=R,qe _=i
 intro r bo w hi
 refine bA (bo.lay) fun lo lo'=>?_
 have wl:=w.len
 show aY (sQ [some (.ref 13),some (.dat (.str other)),some (.ref (i+11)),none,none,none] (bk e N2 R))=_
 unfold sQ
 have l1:fg af [some (.ref 13),some (.dat (.str other)),some (.ref (i+11)),none,none,none] (bk e N2 R)=some (.ref (R.length+11),bk e N2 (R++[AO.list []])):=rfl
 rw[aS (dJ l1)]
 dsimp only[RG]
 have hi':∀ x,(bk e N2 (R++x))[i+11]?=some (AO.idict (jt p q)):=fun x=>by
  show(R++x)[i]?=_
  rw[QD (Qt.mp hi).1]
  exact hi
 have so:=xE (f:=aa 2) (ρ:=[some (.ref 13),some (.dat (.str other)),some (.ref (i+11)),some (.ref (R.length+11)),none,none]) (Xx:=bk e N2 (R++[AO.list []])) rfl (hi' _) (by simp)
 rw[show(kq ((jt p q).map (·.1))).map QY=tI [min p q,max p q] from by rw[show(jt p q).map (·.1)=[(p:Int),(q:Int)] from rfl,Hf];rfl] at so
 have nd:∀ t∈[min p q,max p q],∃ x,N2[t]?=some x∧Qv (.str x.op)=true∧x.op≠other:=fun t ht=>by
  have hno:n.op≠other:=by rcases bo.is with⟨_,rfl,_⟩ | ⟨_,rfl,_⟩<;>first | exact w.nop.1 | exact w.nop.2
  have hmo:m.op≠other:=by rcases bo.is with⟨_,rfl,_⟩ | ⟨_,rfl,_⟩<;>first | exact w.noq.1 | exact w.noq.2
  have h:t=p∨t=q:=by
   simp at ht
   lia
  rcases h with rfl | rfl
  ·exact⟨n,b7 w.pre w.atp,w.layp,hno⟩
  ·exact⟨m,w.atq,w.layq,hmo⟩
 obtain⟨Yg,XK,h1,⟨o1,o2,q1⟩,q2⟩:=kP (g:=bZ 4) (body:=(ah (bJ (ao (am mW (aC 688 fj (aE 1002 0 (aa 0)) (ac (aa 4) af)) (aa 1))) (ah (cM (d8 "list" cK (aa 3) (ac (aa 4) af))) (ah (fun ρ Xx=>some (.cont,ρ,Xx)) az)) az) (ah fq (ah (dN 5 (cF (aC 688 gA (aE 1002 0 (aa 0)) (ac (aa 4) af))) 1 [2,0] (bZ 0) (ao (am lg (aC 688 fO (aE 1002 0 (aa 2)) (ac (aa 0) af)) (aa 1))) (cq (aa 0))) (ah (cM (d8 "list" cK (aa 3) (ac (eV (ao (am (aP fun a b=>a==b) (dw (ac (aa 5) af)) (dw (ac (aC 688 gA (aE 1002 0 (aa 0)) (ac (aa 4) af)) af)))) (aa 4) Ca) af))) az))))) (fun j ρ Xx=>(∃ o1 o2,ρ=[some (.ref 13),some (.dat (.str other)),some (.ref (i+11)),some (.ref (R.length+11)),o1,o2])∧Xx=bk e N2 (R++[AO.list (tP ([min p q,max p q].take j))]))
  (gB (.inl so) (by simp)) ⟨⟨none,none,rfl⟩,rfl⟩ (fun j hj ρ Xx z=>by
   obtain⟨⟨o1,o2,q1⟩,q2⟩:=z
   subst q1 q2
   have hj':j<[min p q,max p q].length:=by simpa using hj
   have hx:(tI [min p q,max p q])[j]=.int (([min p q,max p q][j]:Nat):Int):=UX ..
   rw[hx]
   generalize hu:[min p q,max p q][j]=u
   refine d9 (nd u (hu▸Rt hj')) fun x x1 x2 x3=>?_
   have c1:ao (am mW (aC 688 fj (aE 1002 0 (aa 0)) (ac (aa 4) af)) (aa 1)) [some (.ref 13),some (.dat (.str other)),some (.ref (i+11)),some (.ref (R.length+11)),some (pI (u:Nat)),o2] (bk e N2 (R++[AO.list (tP ([min p q,max p q].take j))]))=some (true,bk e N2 (R++[AO.list (tP ([min p q,max p q].take j))])) :=
    bB (aV (a:=.str x.op) (b:=.str other) ((bn (i:=1) (ps:=[pI (u:Nat)]) (XA:=bk e N2 (R++[AO.list (tP ([min p q,max p q].take j))])) (rwa (r.ext _)) rfl rfl).trans (uO nA x1)) rfl (by rw[Ly x2 lo'];simpa using x3))
   have a1:=wW (f:=aa 3) (fp:=aa 4) (o:=R.length+11) (p:=pI (u:Nat)) (ρ:=[some (.ref 13),some (.dat (.str other)),some (.ref (i+11)),some (.ref (R.length+11)),some (pI (u:Nat)),o2]) (Xx:=bk e N2 (R++[AO.list (tP ([min p q,max p q].take j))])) (XA:=bk e N2 (R++[AO.list (tP ([min p q,max p q].take j))])) (L:=tP ([min p q,max p q].take j)) rfl (by show la (R++[AO.list _])[R.length]?=_;simp[la]) rfl (by show(R++[AO.list _])[R.length]?=_;simp) (by simp;exact Pf)
   refine⟨_,_,_,.cont,rfl,KY ((eJ c1).trans ((aS a1).trans (KY rfl))),.inr rfl,⟨_,_,rfl⟩,?_⟩
   show bk e N2 ((R++[AO.list (tP ([min p q,max p q].take j))]).set R.length (AO.list (tP ([min p q,max p q].take j)++[pI (u:Nat)])))=_
   rw[Q2 _ _ (QZ _),← Ro hj',hu]
   simp[tP])
 subst q1 q2
 rw[aS h1]
 rfl
theorem Na(bo:Bo op other uu ss)(h1:1≤N.length)(h2:N.length≤990)(hk:R[k]?=some (AO.list (tP [min a b,max a b])))(ha:N[a]?=some na)(hb:N[b]?=some nb)(hs:na.sort=0∧nb.sort=0):
  (op=("and":Str)→oR [.ref 1,.ref (k+11)] (bk e N R)=some (pI ((aU N (dS op a b)).1:Nat),bk e (aU N (dS op a b)).2 R)) ∧
  (op=("or":Str)→qH [.ref 1,.ref (k+11)] (bk e N R)=some (pI ((aU N (dS op a b)).1:Nat),bk e (aU N (dS op a b)).2 R)):=by
 have hk':(bk e N R)[k+11]?=some (AO.list (tP [min a b,max a b])):=hk
 have srt:zI N 0 [min a b,max a b]:=fun t ht=>by
  have h:t=a∨t=b:=by
   simp at ht
   lia
  rcases h with rfl | rfl
  ·exact⟨_,ha,hs.1⟩
  ·exact⟨_,hb,hs.2⟩
 have len:dw (ac (aa 1) af) [some (.ref 1),some (.ref (k+11))] (bk e N R)=some (pI 2,bk e N R):=by
  show(ou (bk e N R)[k+11]? (fun l=>some l.length) fun l=>some l.length).map (fun(n:Nat)=>(PV.dat (.int (n:Int)),bk e N R))=_
  rw[hk']
  rfl
 have tp:gd (ac (aa 1) af) [some (.ref 1),some (.ref (k+11))] (bk e N R)=some (.dat (.tuple (tI [min a b,max a b])),bk e N R):=by
  show d7 kM (bk e N R)[k+11]? _=_
  rw[hk']
  rfl
 constructor
 ·rintro rfl
  show aY (uG [some (.ref 1),some (.ref (k+11))] (bk e N R))=_
  unfold uG
  rw[aS (nP ((bn (i:=1) (ps:=[.ref (k+11),pI 0,.dat (.str "and")]) (XA:=bk e N R) rfl rfl rfl).trans (vN nA srt hk' _)))]
  rw[aS (cr (bB (aV (r:=.bool false) len rfl rfl)))]
  rw[bx (cp ((j4 (bB (aV (r:=.bool false) len rfl rfl))).trans ((bn (i:=1) (ps:=[.dat (.str "and"),.dat (.tuple (tI [min a b,max a b])),pI 0,pI 0]) (XA:=bk e N R) rfl rfl (cC rfl (cC tp rfl))).trans (pd (n:=dS "and" a b) iK h1 nA))))]
  rfl
 ·rintro rfl
  show aY (wy [some (.ref 1),some (.ref (k+11))] (bk e N R))=_
  unfold wy
  rw[aS (nP ((bn (i:=1) (ps:=[.ref (k+11),pI 0,.dat (.str "or")]) (XA:=bk e N R) rfl rfl rfl).trans (vN nA srt hk' _)))]
  rw[aS (cr (bB (aV (r:=.bool false) len rfl rfl)))]
  rw[bx (cp ((j4 (bB (aV (r:=.bool false) len rfl rfl))).trans ((bn (i:=1) (ps:=[.dat (.str "or"),.dat (.tuple (tI [min a b,max a b])),pI 0,pI 0]) (XA:=bk e N R) rfl rfl (cC rfl (cC tp rfl))).trans (pd (n:=dS "or" a b) pf h1 nA))))]
  rfl
theorem OC:∀ l:List Nat,Rc (tI l) (tI l)=true:=by
 intro a_
 induction a_ with
 | nil =>
  exact rfl
 | cons a l ih =>
  simp[Rc,Rg,ih]
theorem LC{p:PV}(h1:f ρ Xx=some (p,Xx))(h2:g ρ Xx=some (.dat d,Xx))(h3:qD Xx p=some d)(h4:Q8 d=true)(h5:Rg d d=true):wt true f g ρ Xx=some (.dat (.bool true),Xx):=by
 unfold wt
 rw[h1]
 dsimp only[pP,QQ]
 rw[h2]
 dsimp only
 rw[h3]
 dsimp only[qD]
 rw[if_pos ⟨h4,h4⟩,h5]
 rfl
theorem An(r:Rw Xz)(bo:Bo op other uu ss)(w:Tw e N N1 N2 op p q np nq n m):
  ∃ ext,mc [.ref 13,.dat (.str op),.dat (.list [.int (p:Int),.int (q:Int)])] (bk e N Xz)=some (pI ((aU N2 (dS op p q)).1:Nat),bk e (aU N2 (dS op p q)).2 (Xz++ext)):=by
 revert e N N1 N2 Xz p q np nq n m op other uu ss
 refine @mG _ _ _ _ _ _ _ _ _ nI ?_
 generalize q1 _=e,q2 _=N,q3 _=N1,q4 _=N2,q5 _=Xz,q6 _=p,q7 _=q,qe _=np
 refine @jV _ _ _ _ _ _ _ _ (bi nI (bi Bt (bi Bt nI))) ?_
 generalize q1 _=nq,q2 _=n,q3 _=m,q4 _=op,q5 _=other,q6 _=uu,qe _=ss
 intro r bo w
 refine bA (bo.lay) fun lo lo'=>?_
 have wl:=w.len
 refine⟨[AO.idict (jt p q),AO.list []]++[AO.list (tP [min p q,max p q])],?_⟩
 show aY (uH [some (.ref 13),some (.dat (.str op)),some (.dat (.list [.int (p:Int),.int (q:Int)])),none,none,none,none] (bk e N Xz))=_
 unfold uH
 have tt:=gR (i:=1) (a:=op) (b:="and") (ρ:=[some (.ref 13),some (.dat (.str op)),some (.dat (.list [.int (p:Int),.int (q:Int)])),none,none,none,none]) (Xx:=bk e N Xz) rfl lo iK
 have ut:bp (ac (aE 1002 2 (aa 0)) (ac (ae (.str "or")) af)) [some (.ref 13),some (.dat (.str op)),some (.dat (.list [.int (p:Int),.int (q:Int)])),none,none,none,none] (bk e N Xz)=some (.dat (.tuple [.int 2,.str "or"]),bk e N Xz):=by
  unfold bp
  rw[cC (Al r) (cP rfl)]
  rfl
 have uf:bp (ac (aE 1002 1 (aa 0)) (ac (ae (.str "and")) af)) [some (.ref 13),some (.dat (.str op)),some (.dat (.list [.int (p:Int),.int (q:Int)])),none,none,none,none] (bk e N Xz)=some (.dat (.tuple [.int 1,.str "and"]),bk e N Xz):=by
  unfold bp
  rw[cC (BB r) (cP rfl)]
  rfl
 have u0:eV (ao (am bS (aa 1) (ae (.str "and")))) (bp (ac (aE 1002 2 (aa 0)) (ac (ae (.str "or")) af))) (bp (ac (aE 1002 1 (aa 0)) (ac (ae (.str "and")) af))) [some (.ref 13),some (.dat (.str op)),some (.dat (.list [.int (p:Int),.int (q:Int)])),none,none,none,none] (bk e N Xz)=some (.dat (.tuple [.int ss,.str other]),bk e N Xz):=by
  rcases bo.is with⟨rfl,rfl,rfl,rfl⟩ | ⟨rfl,rfl,rfl,rfl⟩
  ·exact(ml tt).trans ut
  ·exact(j4 tt).trans uf
 have u1:gC [3,4] (eV (ao (am bS (aa 1) (ae (.str "and")))) (bp (ac (aE 1002 2 (aa 0)) (ac (ae (.str "or")) af))) (bp (ac (aE 1002 1 (aa 0)) (ac (ae (.str "and")) af)))) [some (.ref 13),some (.dat (.str op)),some (.dat (.list [.int (p:Int),.int (q:Int)])),none,none,none,none] (bk e N Xz)=some (.next,[some (.ref 13),some (.dat (.str op)),some (.dat (.list [.int (p:Int),.int (q:Int)])),some (pI ss),some (.dat (.str other)),none,none],bk e N Xz):=by
  unfold gC
  rw[u0]
  rfl
 have f1:aC 1002 sP (aa 0) (ac (aa 1) (ac (aa 2) af)) [some (.ref 13),some (.dat (.str op)),some (.dat (.list [.int (p:Int),.int (q:Int)])),some (pI ss),some (.dat (.str other)),none,none] (bk e N Xz)=some (.ref (Xz.length+11),bk e N2 (fM Xz (jt p q) [])) :=
  (bn (i:=13) (ps:=[.dat (.str op),.dat (.list [.int (p:Int),.int (q:Int)])]) (XA:=bk e N Xz) rfl (by rw[show(bk e N Xz)[13]?=_ from r];rfl) rfl).trans (LA r bo w)
 rw[aS u1,aS (dJ f1)]
 dsimp only[RG]
 have rf:Rw (fM Xz (jt p q) []):=r.ext _
 have hd:(fM Xz (jt p q) [])[Xz.length]?=some (AO.idict (jt p q)):=by simp
 have c0:ao (jn false (aa 5)) [some (.ref 13),some (.dat (.str op)),some (.dat (.list [.int (p:Int),.int (q:Int)])),some (pI ss),some (.dat (.str other)),some (.ref (Xz.length+11)),none] (bk e N2 (fM Xz (jt p q) []))=some (true,bk e N2 (fM Xz (jt p q) [])):=rfl
 have th:aC 1002 m8 (aa 0) (ac (aa 4) (ac (aa 5) af)) [some (.ref 13),some (.dat (.str op)),some (.dat (.list [.int (p:Int),.int (q:Int)])),some (pI ss),some (.dat (.str other)),some (.ref (Xz.length+11)),none] (bk e N2 (fM Xz (jt p q) []))=some (.ref (Xz.length+2+11),bk e N2 (fM Xz (jt p q) []++[AO.list (tP [min p q,max p q])])):=by
  refine(bn (i:=13) (ps:=[.dat (.str other),.ref (Xz.length+11)]) (XA:=bk e N2 (fM Xz (jt p q) [])) rfl (by rw[show(bk e N2 (fM Xz (jt p q) []))[13]?=_ from rf];rfl) rfl).trans ?_
  rw[LB rf bo w hd]
  simp
 generalize hR:fM Xz (jt p q) []++[AO.list (tP [min p q,max p q])]=R at *
 have hRi:R[Xz.length]?=some (AO.idict (jt p q)):=by rw[← hR];simp
 have hRk:R[Xz.length+2]?=some (AO.list (tP [min p q,max p q])):=by rw[← hR];simp
 have rR:Rw R:=hR▸rf.ext _
 have so:=xE (f:=aa 5) (ρ:=[some (.ref 13),some (.dat (.str op)),some (.dat (.list [.int (p:Int),.int (q:Int)])),some (pI ss),some (.dat (.str other)),some (.ref (Xz.length+11)),some (.ref (Xz.length+2+11))]) (Xx:=bk e N2 R) rfl hRi (by simp)
 rw[show(kq ((jt p q).map (·.1))).map QY=tI [min p q,max p q] from by rw[show(jt p q).map (·.1)=[(p:Int),(q:Int)] from rfl,Hf];rfl] at so
 have c1:ao (wt true (aa 6) (je (ac (aa 5) af))) [some (.ref 13),some (.dat (.str op)),some (.dat (.list [.int (p:Int),.int (q:Int)])),some (pI ss),some (.dat (.str other)),some (.ref (Xz.length+11)),some (.ref (Xz.length+2+11))] (bk e N2 R)=some (true,bk e N2 R):=by
  refine bB (LC (p:=.ref (Xz.length+2+11)) (d:=.list (tI [min p q,max p q])) rfl so ?_ ?_ ?_)
  ·unfold qD
   dsimp only
   rw[show(bk e N2 R)[Xz.length+2+11]?=_ from hRk]
   rfl
  ·simp[Q8,Qv,Rn,RO,Rs]
  ·show Rc _ _=true
   exact OC _
 have tt2:=gR (i:=1) (a:=op) (b:="and") (ρ:=[some (.ref 13),some (.dat (.str op)),some (.dat (.list [.int (p:Int),.int (q:Int)])),some (pI ss),some (.dat (.str other)),some (.ref (Xz.length+11)),some (.ref (Xz.length+2+11))]) (Xx:=bk e N2 R) rfl lo iK
 refine bA (Na (e:=e) (N:=N2) (R:=R) (k:=Xz.length+2) bo (by have:=(Qt.mp w.atq).1;exact nB) nA hRk (b7 w.pre w.atp) w.atq w.sp) fun bv1 bv2=>?_
 have fin:eV (ao (am bS (aa 1) (ae (.str "and")))) (aC 688 oR (aE 1002 0 (aa 0)) (ac (aa 6) af)) (aC 688 qH (aE 1002 0 (aa 0)) (ac (aa 6) af)) [some (.ref 13),some (.dat (.str op)),some (.dat (.list [.int (p:Int),.int (q:Int)])),some (pI ss),some (.dat (.str other)),some (.ref (Xz.length+11)),some (.ref (Xz.length+2+11))] (bk e N2 R)=some (pI ((aU N2 (dS op p q)).1:Nat),bk e (aU N2 (dS op p q)).2 R):=by
  rcases bo.is with⟨rfl,_⟩ | ⟨rfl,_⟩
  ·exact(ml tt2).trans ((bn (i:=1) (ps:=[.ref (Xz.length+2+11)]) (XA:=bk e N2 R) (rwa rR) rfl rfl).trans (bv1 rfl))
  ·exact(j4 tt2).trans ((bn (i:=1) (ps:=[.ref (Xz.length+2+11)]) (XA:=bk e N2 R) (rwa rR) rfl rfl).trans (bv2 rfl))
 have body:∀ K:SF,ah (bQ 6 (aC 1002 m8 (aa 0) (ac (aa 4) (ac (aa 5) af)))) (ah (bJ (ao (wt true (aa 6) (je (ac (aa 5) af)))) (ah (aW (eV (ao (am bS (aa 1) (ae (.str "and")))) (aC 688 oR (aE 1002 0 (aa 0)) (ac (aa 6) af)) (aC 688 qH (aE 1002 0 (aa 0)) (ac (aa 6) af)))) az) az) K) [some (.ref 13),some (.dat (.str op)),some (.dat (.list [.int (p:Int),.int (q:Int)])),some (pI ss),some (.dat (.str other)),some (.ref (Xz.length+11)),none] (bk e N2 (fM Xz (jt p q) []))=some (.ret (pI ((aU N2 (dS op p q)).1:Nat)),[some (.ref 13),some (.dat (.str op)),some (.dat (.list [.int (p:Int),.int (q:Int)])),some (pI ss),some (.dat (.str other)),some (.ref (Xz.length+11)),some (.ref (Xz.length+2+11))],bk e (aU N2 (dS op p q)).2 R):=fun K=>by
  rw[aS (dJ th)]
  dsimp only[RG]
  rw[bx ((eJ c1).trans (bx (cp fin)))]
 rw[bx (Ew c0 (body _)),← QF]
 show some _=some (_,bk e _ (fM Xz (jt p q) []++_))
 rw[hR]
end
theorem kJ(v:Int):be (2*v)=(v,1):=by
 unfold be
 rw[if_pos (by lia)]
 exact TV (by show 2*v / 2=v;lia) rfl
noncomputable def c4:Nat→Int:=fun u=>if u=4 then 2 else 0
section
variable {e:En} {N:List Nd} {Xz:List AO} {s v:Int} {i:Nat} {dp:PV}
theorem LD(o:OK s N)(hi:N[i]?=some (aM (v,1) s))(hv : -4≤v∧v≤4):TS N s i [i]∧ff N i=(0,2*v):=by
 have hm:ff N i=(0,2*v):=by
  unfold ff
  rw[hi]
  rfl
 have hi':N[i]?=some (aM (be (2*v)) s):=by rw[kJ];exact hi
 refine⟨⟨.inl rfl,by simp,by simp,fun k hk=>?_⟩,hm⟩
 rw[Qu] at hk
 subst hk
 exact⟨0,2*v,.num hi',hm,by unfold In;lia⟩
theorem LE(o:OK s N)(hu:tri u=true):TS N s u [u]∧ff N u=(u,2):=by
 obtain⟨⟨n,h1,h2⟩,h3⟩:=o.unk u hu
 refine⟨⟨.inl rfl,by simp,by simp,fun k hk=>?_⟩,h3⟩
 rw[Qu] at hk
 subst hk
 exact⟨k,2,.unk (dm.mp hu) h1 h2,h3,by unfold In;decide⟩
theorem LG{P:Int→Prop}(h:∀ i<9,P ((i:Nat) - 4))(hv : -4≤v∧v≤4):P v:=by
 have:=h (v+4).toNat (by lia)
 rwa [show(((v+4).toNat:Nat):Int) - 4=v by lia] at this
theorem OD(hv : -4≤v∧v≤4):nN [(4,(-1,1))] (be (-(2*v)))=([(4,(1,1))],(v,1)):=LG (P:=fun v=>nN [(4,(-1,1))] (be (-(2*v)))=([(4,(1,1))],(v,1))) (by decide +kernel) hv
theorem PN(hv : -4≤v∧v≤4):Cn [(4,(1,1))] (v,1):=by
 refine⟨by simp,⟨by simp,by simp,by simp,by constructor<;>simp;exact kR.mpr zA⟩,by simp,?_⟩
 exact LG (P:=fun v=>nN [(4,(1,1))] (v,1)=([(4,(1,1))],(v,1))) (by decide +kernel) hv
theorem OE(v:Int):fF v 1=(v,1):=by
 unfold fF
 simp[Nat.gcd_one_right]
theorem Nb(r:Rw Xz)(o:OK s N)(hl:N.length≤850)(hi:N[i]?=some (aM (v,1) s))(hi1:1≤i)(hv : -4≤v∧v≤4):
  ∃ ext,kF [.ref 13,pI (i:Nat),pI (4:Nat),dp] (bk e N Xz)=some (pI ((aU N (bU 4 i)).1:Nat),bk e (aU N (bU 4 i)).2 (Xz++ext)):=by
 revert e N Xz s v i dp
 refine @jV _ _ _ _ _ _ _ _ nI ?_
 generalize q1 _=e,q2 _=N,q3 _=Xz,q4 _=s,q5 _=v,q6 _=i,qe _=dp
 intro r o hl hi hi1 hv
 refine cps fun G kG=>?_
 refine bA (LD o hi hv) fun T1 m1=>?_
 refine bA (LE o (u:=4) rfl) fun T2 m2=>?_
 refine bM (Ad (e:=e) (Xz:=Xz) (f:=aa 1) (g:=aa 2) (fb:=aE 1002 0 (aa 0)) (ρ:=eS i (pI (4:Nat)) dp [none,none,none,none,none,none]) nA o.unk T1 T2 (rwa r) rfl rfl) fun ext h1=>?_
 have hrow:(s5 (fun u=>df N [i] u - df N [4] u) (df N [i] 0 - df N [4] 0))=b6 [(4,(-1,1))] (be (-(2*v))):=by
  have g1:∀ y,df N [i] y=if 0=y then 2*v else 0:=fun y=>by simp[df,m1]
  have g2:∀ y,df N [4] y=if 4=y then 2 else 0:=fun y=>by simp[df,m2]
  have e1:df N [i] 0 - df N [4] 0=2*v:=by rw[g1,g2];simp
  have e2:pn (fun u=>df N [i] u - df N [4] u)=tD [(4,(-1,1))]:=(s7 (d:=fun u=>if u=4 then -2 else 0) (fun u ht=>by rcases dm.mp ht with rfl | rfl | rfl<;>simp[g1,g2])).trans rfl
  unfold s5
  rw[e1,e2]
 rw[hrow] at h1
 have hw:Hw [(4,((-1:Int),(1:Int)))] (be (-(2*v))):=by
  refine⟨by simp,by simp,by simp,?_⟩
  rw[show -(2*v)=2*(-v) from by lia,kJ]
  constructor<;>simp
  exact kR.mpr zA
 have w1:=qq (Xx:=bk e N (Xz++ext)) hw
 rw[OD hv] at w1
 have cn:=PN hv
 have hna:N[i]?=some (aM (v,1) s):=hi
 have h4:N[4]?=some ⟨"app",[],s,.inl 1⟩:=o.at rfl
 have rx:=r.ext ext
 refine bA (BC (e:=e) (N:=N) (Xz:=Xz++ext) (s:=s) (a:=i) (b:=pI (4:Nat)) (dp:=dp) (T:=[(4,(1,1))]) (B:=(v,1)) (X:=ah fq az) (o5:=none) (o6:=none) (o7:=none) (o8:=none) (o9:=none) rx nA cn o.so (fun x hx=>by rw[Qu] at hx;subst hx;exact⟨_,h4,rfl⟩)) fun p1 p2=>?_
 refine bM (BF (e:=e) (Xz:=Xz++ext) (X:=ah fq az) (b:=pI (4:Nat)) (dp:=dp) (o9:=none) (c:=c4) (B:=(v,1)) (nu:=⟨"app",[],s,.inl 1⟩) rx o nA hna rfl (u:=4) rfl h4 rfl (fun u=>by unfold c4 In;split<;>decide) (fun _ u _=>by unfold c4;split<;>rfl) ⟨by show v.natAbs≤10000;exact kR.mpr zA,by show(0:Int)<1∧(1:Int)≤98;decide⟩ (fun _=>rfl) (OE v)) fun ext2 q1=>?_
 refine kG ?_
 refine⟨ext++ext2,?_⟩
 show aY (i7 (eS i (pI (4:Nat)) dp [none,none,none,none,none,none]) (bk e N Xz))=_
 rw[Lu]
 have s4:Hc (eS i (pI (4:Nat)) dp [none,none,none,none,none,none]) (bk e N Xz)=some (.next,eS i (pI (4:Nat)) dp [some (.dat (b6 [(4,(1,1))] (v,1))),none,none,none,none,none],bk e N (Xz++ext)):=by
  exact dJ ((bO (cP h1)).trans w1)
 rw[aS s4,p2 (fun h=>h.2 rfl)]
 have hf:aU N (aM (v,1) s)=(i,N):=tO o.un hi hi1
 have ha:run (.mk (aM (v,1) s) fun _=>eA s c4 (v,1)) N=((aU N (bU 4 i)).1,(aU N (bU 4 i)).2):=by
  show run (eA s c4 (v,1)) (aU N (aM (v,1) s)).2=_
  rw[hf]
  show run (.mk (bU 4 (aU N (aM (v,1) s)).1) .ret) (aU N (aM (v,1) s)).2=_
  rw[hf]
  rfl
 rw[ha] at q1
 rw[← QF]
 exact q1
theorem ID(h2:N.length≤1000)(ht:N[t]?=some n)(hg:iF (.str n.op) (.tuple [.str "true",.str "false",.str "num",.str "bvnum"])=some (.bool b)):fX [.ref 1,pI (t:Nat)] (bk e N Xz)=some (.dat (.bool b),bk e N Xz):=by
 show aY (rq [some (.ref 1),some (pI (t:Nat))] (bk e N Xz))=_
 unfold rq
 rw[bx (cp (aV (zx h2 ht rfl rfl) rfl hg))]
 rfl
theorem qP:iF (.str "num") (.tuple [.str "true",.str "false",.str "num",.str "bvnum"])=some (.bool true):=by
 unfold iF xr;dsimp only;rw[if_pos (by decide +kernel)];rfl
theorem BG:iF (.str "app") (.tuple [.str "true",.str "false",.str "num",.str "bvnum"])=some (.bool false):=by
 unfold iF xr;dsimp only;rw[if_pos (by decide +kernel)];rfl
end
noncomputable def jK(s v:Int):Pg:=.mk (aM (v,1) s) fun i=>.mk (bU 4 i) fun j =>
 if i=6 then .mk (bz 3) fun _=>.mk (bz j) fun _=>.mk (dS "or" 3 j) .ret
 else .mk (bz 3) fun n1=>.mk (bz j) fun _=>.mk (dS "and" n1 j) .ret
section
variable {e:En} {N:List Nd} {Xz:List AO} {s v:Int} {i j k:Nat} {dp:PV} {n:Nd}
theorem xF(hf:f ρ Xx=some (pI (x:Nat),Xx))(hg:g ρ Xx=some (pI (y:Nat),Xx)):ao (am (aP fun a b=>a==b) f g) ρ Xx=some (decide (x=y),Xx) :=
 bB (aV hf hg (by
  show some (QT (((x:Nat):Int)==(y:Int)))=_
  congr 2
  by_cases h:x=y
  ·simp[h]
  ·have:¬ ((x:Nat):Int)=(y:Int):=by lia
   simp[h,this]))
theorem NW{Xx:Nat}(r:Rw Xz)(h2:N.length≤1000)(hk:N[k]?=some n)(hm:(some (.ref 13)::l:Sl)[m]?=some (some (pI (k:Nat)))):aC 688 fj (aE 1002 0 (aa 0)) (ac (aa m) af) (some (.ref 13)::l) (bk e N Xz)=some (.dat (.str n.op),bk e N Xz) :=
 (bn (i:=1) (ps:=[pI (k:Nat)]) (XA:=bk e N Xz) (rwa r) rfl (cP (by unfold aa;rw[hm]))).trans (uO h2 hk)
theorem uV{l:Sl}(r:Rw Xz)(h2:N.length≤1000)(hk:N[k]?=some n)(hg:iF (.str n.op) (.tuple [.str "true",.str "false",.str "num",.str "bvnum"])=some (.bool b))(hm:(some (.ref 13)::l:Sl)[m]?=some (some (pI (k:Nat)))):ao (aC 688 fX (aE 1002 0 (aa 0)) (ac (aa m) af)) (some (.ref 13)::l) (bk e N Xz)=some (b,bk e N Xz) :=
 bB ((bn (i:=1) (ps:=[pI (k:Nat)]) (XA:=bk e N Xz) (rwa r) rfl (cP (by unfold aa;rw[hm]))).trans (ID h2 hk hg))
theorem C4{l:Sl}(r:Rw Xz)(h2:N.length≤1000)(hk:N[k]?=some n)(hm:(some (.ref 13)::l:Sl)[m]?=some (some (pI (k:Nat)))):aC 688 eI (aE 1002 0 (aa 0)) (ac (aa m) af) (some (.ref 13)::l) (bk e N Xz)=some (pI n.sort,bk e N Xz) :=
 (bn (i:=1) (ps:=[pI (k:Nat)]) (XA:=bk e N Xz) (rwa r) rfl (cP (by unfold aa;rw[hm]))).trans (vL h2 hk)
theorem LH{x:Int}(hx:x=1∨x=2)(hf:f ρ Xx=some (pI x,Xx)):ao (am (aP fun a b=>a==b) f (ae (.int 0))) ρ Xx=some (false,Xx) :=
 bB (aV (b:=.int 0) hf rfl (by rcases hx with rfl | rfl<;>rfl))
theorem LI(r:Rw Xz)(o:OK s N)(h2:N.length≤1000)(hi:N[i]?=some (aM (v,1) s)):mf [.ref 13,pI (i:Nat),pI (6:Nat),dp] (bk e N Xz)=some (pI (if i=6 then 1 else 2),bk e N Xz):=by
 show aY (oh [some (.ref 13),some (pI (i:Nat)),some (pI (6:Nat)),some dp,none,none] (bk e N Xz))=_
 unfold oh
 have t1:=xF (x:=i) (y:=6) (f:=aa 1) (g:=aa 2) (ρ:=[some (.ref 13),some (pI (i:Nat)),some (pI (6:Nat)),some dp,none,none]) (Xx:=bk e N Xz) rfl rfl
 by_cases h:i=6
 ·rw[decide_eq_true h] at t1
  rw[bx ((eJ t1).trans (bx (cp (BB r)))),if_pos h]
  rfl
 ·rw[decide_eq_false h] at t1
  have h6:N[6]?=some (aM (2,1) s):=o.at rfl
  rw[aS (cr t1),aS (cr (LH o.so (C4 r h2 hi rfl))),bx ((eJ ((i8 (uV r h2 hi qP rfl)).trans (uV r h2 h6 qP rfl))).trans (bx (cp (Al r)))),if_neg h]
  rfl
theorem LJ(r:Rw Xz)(o:OK s N)(hl:N.length≤850)(hi:N[i]?=some (aM (v,1) s))(hi1:1≤i)(hv : -4≤v∧v≤4):
  ∃ ext,mf [.ref 13,pI (i:Nat),pI (4:Nat),dp] (bk e N Xz)=some (pI ((aU N (bU 4 i)).1:Nat),bk e (aU N (bU 4 i)).2 (Xz++ext)):=by
 revert e N Xz s v i dp
 refine @jV _ _ _ _ _ _ _ _ nI ?_
 generalize q1 _=e,q2 _=N,q3 _=Xz,q4 _=s,q5 _=v,q6 _=i,qe _=dp
 intro r o hl hi hi1 hv
 refine bM (Nb (e:=e) (Xz:=Xz) (dp:=dp) r o hl hi hi1 hv) fun ext h0=>?_
 refine⟨ext,?_⟩
 have h4:N[4]?=some ⟨"app",[],s,.inl 1⟩:=o.at rfl
 have hi4:i≠4:=fun q=>by rw[q,h4] at hi;cases hi
 show aY (oh [some (.ref 13),some (pI (i:Nat)),some (pI (4:Nat)),some dp,none,none] (bk e N Xz))=_
 unfold oh
 have t1:=xF (x:=i) (y:=4) (f:=aa 1) (g:=aa 2) (ρ:=[some (.ref 13),some (pI (i:Nat)),some (pI (4:Nat)),some dp,none,none]) (Xx:=bk e N Xz) rfl rfl
 rw[decide_eq_false hi4] at t1
 rw[aS (cr t1),aS (cr (LH o.so (C4 r nA hi rfl))),aS (cr ((i8 (uV r nA hi qP rfl)).trans (uV r nA h4 BG rfl)))]
 have sc:bp (ac (bp (ac (aa 1) (ac (aa 2) af))) (ac (bp (ac (aa 2) (ac (aa 1) af))) af)) [some (.ref 13),some (pI (i:Nat)),some (pI (4:Nat)),some dp,none,none] (bk e N Xz)=some (.dat (.tuple [.tuple [.int (i:Nat),.int (4:Nat)],.tuple [.int (4:Nat),.int (i:Nat)]]),bk e N Xz):=rfl
 obtain⟨Yg,XK,h1,⟨o1,o2,q1⟩,q2⟩:=kP (g:=eG [4,5]) (body:=(ah (bJ (gq (ao (aC 688 fX (aE 1002 0 (aa 0)) (ac (aa 4) af))) (ao (am bS (aC 688 fj (aE 1002 0 (aa 0)) (ac (aa 5) af)) (ae (.str "ite"))))) (ah fq az) az) az)) (fun j ρ Xx=>(∃ o1 o2,ρ=[some (.ref 13),some (pI (i:Nat)),some (pI (4:Nat)),some dp,o1,o2])∧Xx=bk e N Xz)
  (gB (.inr sc) (by simp)) ⟨⟨none,none,rfl⟩,rfl⟩ (fun j hj ρ Xx z=>by
   obtain⟨⟨o1,o2,q1⟩,q2⟩:=z
   subst q1 q2
   have hj':j=0∨j=1:=by simp at hj;lia
   rcases hj' with rfl | rfl
   ·refine⟨_,_,_,.next,rfl,(aS (cr ((i8 (uV (k:=i) r nA hi qP rfl)).trans (bB (aV (a:=.str "app") (b:=.str "ite") (r:=.bool false) (NW (Xx:=0) (k:=4) r nA h4 rfl) rfl (by rw[gQ fQ gl];rfl)))))).trans rfl,.inl rfl,⟨_,_,rfl⟩,rfl⟩
   ·refine⟨_,_,_,.next,rfl,(aS (cr (my (uV (k:=4) r nA h4 BG rfl)))).trans rfl,.inl rfl,⟨_,_,rfl⟩,rfl⟩)
 subst q1 q2
 have oth:md [.ref 13,pI (i:Nat),pI (4:Nat),dp] (bk e N Xz)=some (pI ((aU N (bU 4 i)).1:Nat),bk e (aU N (bU 4 i)).2 (Xz++ext)):=by
  show aY (jS [some (.ref 13),some (pI (i:Nat)),some (pI (4:Nat)),some dp] (bk e N Xz))=_
  unfold jS
  have n1:aC 688 d6 (aE 1002 0 (aa 0)) (ac (aC 688 eI (aE 1002 0 (aa 0)) (ac (aa 1) af)) af) [some (.ref 13),some (pI (i:Nat)),some (pI (4:Nat)),some dp] (bk e N Xz)=some (.dat (.bool true),bk e N Xz) :=
   (bn (i:=1) (ps:=[pI s]) (XA:=bk e N Xz) (rwa r) rfl (cP (C4 r nA hi rfl))).trans (wS o.so _)
  rw[bx ((eJ (bB n1)).trans (bx (cp ((bn (i:=13) (ps:=[pI (i:Nat),pI (4:Nat),dp]) (XA:=bk e N Xz) rfl (by rw[show(bk e N Xz)[13]?=_ from r];rfl) rfl).trans h0))))]
  rfl
 rw[aS h1,bx (cp ((bn (i:=13) (ps:=[pI (i:Nat),pI (4:Nat),dp]) (XA:=bk e N Xz) rfl (by rw[show(bk e N Xz)[13]?=_ from r];rfl) rfl).trans oth))]
 rfl
noncomputable def uW(a j:Nat):Pg:=if a=1 then .mk (bz 3) fun _=>.mk (bz j) fun _=>.mk (dS "or" 3 j) .ret else .mk (bz 3) fun n1=>.mk (bz j) fun _=>.mk (dS "and" n1 j) .ret
theorem F7{a:Nat}(r:Rw Xz)(o:OK s N)(hl:N.length≤900)(ha:a=1∨a=2)(hj:N[j]?=some (bU 4 i))(hj1:1≤j):
  ∃ ext,uJ [.ref 13,pI (3:Nat),pI (a:Nat),pI (j:Nat)] (bk e N Xz)=some (pI ((run (uW a j) N).1:Nat),bk e (run (uW a j) N).2 (Xz++ext)):=by
 revert e N Xz s i j a
 refine @jV _ _ _ _ _ _ _ _ nI ?_
 generalize q1 _=e,q2 _=N,q3 _=Xz,q4 _=s,q5 _=i,q6 _=j,qe _=a
 intro r o hl ha hj hj1
 have h3:N[3]?=some ⟨"app",[],0,.inl 0⟩:=o.at rfl
 have hn:∀ {x:Nat} {m:Nd},N[x]?=some m→m.op≠("=":Str)→j≠x:=fun {x m} h q h'=>by
  rw[← h',hj] at h
  obtain rfl:=cE h
  exact q rfl
 have j1:j≠1:=hn (o.at (i:=1) rfl) (by decide)
 have j2:j≠2:=hn (o.at (i:=2) rfl) (by decide)
 have j3:j≠3:=hn h3 (by decide)
 obtain⟨opa,hA,hAl,hA1,hA2⟩:∃ m,N[a]?=some m∧Qv (.str m.op)=true∧m.op≠("ite":Str)∧m.sort=0:=by
  rcases ha with rfl | rfl
  ·exact⟨_,o.at (i:=1) rfl,po,by show("true":Str)≠_;decide,rfl⟩
  ·exact⟨_,o.at (i:=2) rfl,pZ,by show("false":Str)≠_;decide,rfl⟩
 have cb:∃ ext,nJ [.ref 13,pI (3:Nat),pI (a:Nat),pI (j:Nat)] (bk e N Xz)=some (pI ((run (uW a j) N).1:Nat),bk e (run (uW a j) N).2 (Xz++ext)):=by
  have a1:=xF (x:=a) (y:=1) (f:=aa 2) (g:=aE 1002 1 (aa 0)) (ρ:=[some (.ref 13),some (pI (3:Nat)),some (pI (a:Nat)),some (pI (j:Nat))]) (Xx:=bk e N Xz) rfl (BB r)
  rcases ha with rfl | rfl
  ·
   have l1:=fB N (bz 3)
   have hj':=b7 (db N (bz 3)) hj
   have l2:=fB (aU N (bz 3)).2 (bz j)
   have nq:=fun R=>vS (e:=e) (N:=(aU N (bz 3)).2) (Xz:=R) (by have:=o.len;lia) yq hj' rfl fe (by show("=":Str)≠_;decide) j1 j2
   have at2:=dU (N:=(aU N (bz 3)).2) (n:=bz j) (by have:=o.len;lia)
   have w:Tw e N (aU N (bz 3)).2 (aU (aU N (bz 3)).2 (bz j)).2 "or" 3 j (aU N (bz 3)).1 (aU (aU N (bz 3)).2 (bz j)).1 ⟨"app",[],0,.inl 0⟩ (bU 4 i) :=
    ⟨by lia,db ..,b7 (db ..) h3,b7 (db ..) hj',fQ,fe,by decide,by show("=":Str)≠_∧("=":Str)≠_;decide,⟨by decide,by lia,by exact Tc (by assumption),fun q=>by
     have:=at2.1
     rw[q,b7 (db _ _) (b7 (db _ _) h3)] at this
     cases this⟩,⟨rfl,rfl⟩,fun R=>vS (by have:=o.len;exact nB) nA h3 rfl fQ (by show("app":Str)≠_;decide) (by decide) (by decide),nq⟩
   obtain⟨ext,jv⟩:=An (e:=e) (Xz:=Xz) r (op:="or") (other:="and") (uu:=2) (ss:=1) ⟨.inr ⟨rfl,rfl,rfl,rfl⟩⟩ w
   refine⟨ext,?_⟩
   show aY (jh [some (.ref 13),some (pI (3:Nat)),some (pI (1:Nat)),some (pI (j:Nat))] (bk e N Xz))=_
   unfold jh
   rw[bx ((eJ (CU a1)).trans (bx (cp ((bn (i:=13) (ps:=[.dat (.str "or"),.dat (.list [.int (3:Nat),.int (j:Nat)])]) (XA:=bk e N Xz) rfl (by rw[show(bk e N Xz)[13]?=_ from r];rfl) rfl).trans jv))))]
   rfl
  ·
   have nm:=fun R=>vS (e:=e) (N:=N) (Xz:=R) (by have:=o.len;exact nB) nA h3 rfl fQ (by show("app":Str)≠_;decide) (by decide) (by decide)
   have o1:=o.add (bz 3)
   have l1:=fB N (bz 3)
   have at1:=dU (N:=N) (n:=bz 3) (by have:=o.len;exact nB)
   have hj':=b7 (db N (bz 3)) hj
   have l2:=fB (aU N (bz 3)).2 (bz j)
   have at2:=dU (N:=(aU N (bz 3)).2) (n:=bz j) (by have:=o.len;lia)
   generalize hM:(aU N (bz 3)).2=M at *
   generalize hn1:(aU N (bz 3)).1=n1 at *
   have big:3≤n1∧n1≠j:=by
    have e1:M[1]?=some ⟨"true",[],0,.inl 0⟩:=o1.at rfl
    have e2:M[2]?=some ⟨"false",[],0,.inl 0⟩:=o1.at rfl
    refine⟨?_,fun q=>by rw[q,hj'] at at1;cases at1.1⟩
    have h1:n1≠1:=fun q=>by rw[q,e1] at at1;cases at1.1
    have h2:n1≠2:=fun q=>by rw[q,e2] at at1;cases at1.1
    lia
   have nq:=fun R=>vS (e:=e) (N:=M) (Xz:=R) (by have:=o1.len;exact nB) yq hj' rfl fe (by show("=":Str)≠_;decide) j1 j2
   have w:Tw e M M (aU M (bz j)).2 "and" n1 j 3 (aU M (bz j)).1 (bz 3) (bU 4 i) :=
    ⟨by lia,db ..,at1.1,b7 (db ..) hj',hZ,fe,by show("not":Str)≠_∧("not":Str)≠_;decide,by show("=":Str)≠_∧("=":Str)≠_;decide,⟨big.1,by lia,big.2,fun q=>by
     have:=at2.1
     rw[q,b7 (db _ _) at1.1] at this
     simp[bz] at this
     lia⟩,⟨rfl,rfl⟩,fun R=>IB yq at1.1,nq⟩
   obtain⟨ext,jv⟩:=An (e:=e) (Xz:=Xz) r (op:="and") (other:="or") (uu:=1) (ss:=2) ⟨.inl ⟨rfl,rfl,rfl,rfl⟩⟩ w
   refine⟨ext,?_⟩
   show aY (jh [some (.ref 13),some (pI (3:Nat)),some (pI (2:Nat)),some (pI (j:Nat))] (bk e N Xz))=_
   unfold jh
   have a2:=xF (x:=2) (y:=3) (f:=aa 2) (g:=aa 1) (ρ:=[some (.ref 13),some (pI (3:Nat)),some (pI (2:Nat)),some (pI (j:Nat))]) (Xx:=bk e N Xz) rfl rfl
   have a3:=xF (x:=2) (y:=2) (f:=aa 2) (g:=aE 1002 2 (aa 0)) (ρ:=[some (.ref 13),some (pI (3:Nat)),some (pI (2:Nat)),some (pI (j:Nat))]) (Xx:=bk e N Xz) rfl (Al r)
   rw[aS (cr ((qo a1).trans a2))]
   have ng:aC 1002 ij (aa 0) (ac (aa 1) af) [some (.ref 13),some (pI (3:Nat)),some (pI (2:Nat)),some (pI (j:Nat))] (bk e N Xz)=some (pI (n1:Nat),bk e M Xz):=by
    refine(bn (i:=13) (ps:=[pI (3:Nat)]) (XA:=bk e N Xz) rfl (by rw[show(bk e N Xz)[13]?=_ from r];rfl) rfl).trans ?_
    show aY (sR [some (.ref 13),some (pI (3:Nat))] (bk e N Xz))=_
    unfold sR
    rw[bx (cp ((bn (i:=1) (ps:=[pI (3:Nat)]) (XA:=bk e N Xz) (rwa r) rfl rfl).trans (nm Xz)))]
    rfl
   have ls:dT (ac (aC 1002 ij (aa 0) (ac (aa 1) af)) (ac (aa 3) af)) [some (.ref 13),some (pI (3:Nat)),some (pI (2:Nat)),some (pI (j:Nat))] (bk e N Xz)=some (.dat (.list [.int (n1:Nat),.int (j:Nat)]),bk e M Xz):=by
    unfold dT
    rw[cC ng (cP rfl)]
    rfl
   have hrun:run (uW 2 j) N=((aU (aU M (bz j)).2 (dS "and" n1 j)).1,(aU (aU M (bz j)).2 (dS "and" n1 j)).2):=by
    show run (.mk (bz j) fun _=>.mk (dS "and" (aU N (bz 3)).1 j) .ret) (aU N (bz 3)).2=_
    rw[hM,hn1]
    rfl
   rw[hrun,bx ((eJ (CU a3)).trans (bx (cp ((bn (i:=13) (ps:=[.dat (.str "and"),.dat (.list [.int (n1:Nat),.int (j:Nat)])]) (XA:=bk e M Xz) rfl (by rw[show(bk e N Xz)[13]?=_ from r];rfl) (cC rfl (cP ls))).trans jv))))]
   rfl
 obtain⟨ext,cb⟩:=cb
 refine⟨ext,?_⟩
 show aY (uI [some (.ref 13),some (pI (3:Nat)),some (pI (a:Nat)),some (pI (j:Nat))] (bk e N Xz))=_
 unfold uI
 have strT:∀ {m k:Nat} {n:Nd} {w:Str},N[k]?=some n→Qv (.str n.op)=true→Qv (.str w)=true→n.op≠w→([some (.ref 13),some (pI (3:Nat)),some (pI (a:Nat)),some (pI (j:Nat))]:Sl)[m]?=some (some (pI (k:Nat)))→ao (am bS (aC 688 fj (aE 1002 0 (aa 0)) (ac (aa m) af)) (ae (.str w))) [some (.ref 13),some (pI (3:Nat)),some (pI (a:Nat)),some (pI (j:Nat))] (bk e N Xz)=some (false,bk e N Xz):=fun {m k n w} hk A7 hl2 hn hm =>
  bB (aV (a:=.str n.op) (b:=.str w) (NW (Xx:=0) r nA hk hm) rfl (by rw[gQ A7 hl2];simpa using hn))
 rw[aS (cr (strT (m:=1) h3 fQ hZ (by show("app":Str)≠_;decide) rfl))]
 rw[aS (cr (my (strT (m:=2) hA hAl gl hA1 rfl)))]
 rw[aS (cr (my (strT (m:=3) hj fe gl (by show("=":Str)≠_;decide) rfl)))]
 have b1:=xF (x:=3) (y:=1) (f:=aa 1) (g:=aE 1002 1 (aa 0)) (ρ:=[some (.ref 13),some (pI (3:Nat)),some (pI (a:Nat)),some (pI (j:Nat))]) (Xx:=bk e N Xz) rfl (BB r)
 have b2:=xF (x:=a) (y:=j) (f:=aa 2) (g:=aa 3) (ρ:=[some (.ref 13),some (pI (3:Nat)),some (pI (a:Nat)),some (pI (j:Nat))]) (Xx:=bk e N Xz) rfl rfl
 rw[decide_eq_false (by lia:¬ a=j)] at b2
 have b3:=xF (x:=3) (y:=2) (f:=aa 1) (g:=aE 1002 2 (aa 0)) (ρ:=[some (.ref 13),some (pI (3:Nat)),some (pI (a:Nat)),some (pI (j:Nat))]) (Xx:=bk e N Xz) rfl (Al r)
 have b4:ao (am (aP fun a b=>a==b) (aC 688 eI (aE 1002 0 (aa 0)) (ac (aa 2) af)) (ae (.int 0))) [some (.ref 13),some (pI (3:Nat)),some (pI (a:Nat)),some (pI (j:Nat))] (bk e N Xz)=some (true,bk e N Xz) :=
  bB (aV (a:=.int opa.sort) (b:=.int 0) (C4 r nA hA rfl) rfl (by rw[hA2];rfl))
 rw[aS (cr ((qo b1).trans b2)),aS (cr b3),bx (cp ((ml b4).trans ((bn (i:=13) (ps:=[pI (3:Nat),pI (a:Nat),pI (j:Nat)]) (XA:=bk e N Xz) rfl (by rw[show(bk e N Xz)[13]?=_ from r];rfl) rfl).trans cb)))]
 rfl
theorem wY(hd:d<50)(r:Rw Xz)(o:OK s N)(hl:N.length≤840)(hi:N[i]?=some (aM (v,1) s))(hi1:1≤i)(hv : -4≤v∧v≤4):
  ∃ ext,e9 [.ref 13,pI (i:Nat),pI (7:Nat),pI (d:Nat)] (bk e N Xz)=some (pI ((run (jK s v) N).1:Nat),bk e (run (jK s v) N).2 (Xz++ext)):=by
 revert e N Xz s v i d
 refine @jV _ _ _ _ _ _ _ _ nI ?_
 generalize q1 _=e,q2 _=N,q3 _=Xz,q4 _=s,q5 _=v,q6 _=i,qe _=d
 intro hd r o hl hi hi1 hv
 have h7:N[7]?=some ⟨"ite",[3,6,4],s,.inl 0⟩:=o.at rfl
 have h6:N[6]?=some (aM (2,1) s):=o.at rfl
 obtain⟨x1,q1⟩:=LJ (e:=e) (Xz:=Xz) (dp:=pI ((d:Nat)+1:Int)) r o nA hi hi1 hv
 have aj:=dU (N:=N) (n:=bU 4 i) (by have:=o.len;exact nB)
 have lj:=fB N (bU 4 i)
 obtain⟨x2,q2⟩:=F7 (e:=e) (Xz:=Xz++x1) (a:=if i=6 then 1 else 2) (r.ext x1) (o.add (bU 4 i)) yq (by split<;>simp) aj.1 aj.2
 refine⟨x1++x2,?_⟩
 show aY (jT [some (.ref 13),some (pI (i:Nat)),some (pI (7:Nat)),some (pI (d:Nat)),none,none,none] (bk e N Xz))=_
 unfold jT
 have u1:gC [4,5,6] (aC 688 gA (aE 1002 0 (aa 0)) (ac (aa 2) af)) [some (.ref 13),some (pI (i:Nat)),some (pI (7:Nat)),some (pI (d:Nat)),none,none,none] (bk e N Xz)=some (.next,[some (.ref 13),some (pI (i:Nat)),some (pI (7:Nat)),some (pI (d:Nat)),some (pI (3:Nat)),some (pI (6:Nat)),some (pI (4:Nat))],bk e N Xz):=by
  unfold gC
  rw[(bn (i:=1) (ps:=[pI (7:Nat)]) (XA:=bk e N Xz) (rwa r) rfl rfl).trans (zy nA h7)]
  rfl
 rw[aS u1]
 have t1:ao (am (aP fun a b=>decide (b≤a)) (aa 3) (ae (.int 50))) [some (.ref 13),some (pI (i:Nat)),some (pI (7:Nat)),some (pI (d:Nat)),some (pI (3:Nat)),some (pI (6:Nat)),some (pI (4:Nat))] (bk e N Xz)=some (false,bk e N Xz) :=
  bB (aV (a:=.int (d:Nat)) (b:=.int 50) rfl rfl (by show some (QT (decide ((50:Int)≤((d:Nat):Int))))=_;rw[decide_eq_false (by lia)]))
 have t2:=my (U:=ky (ao (aC 688 fX (aE 1002 0 (aa 0)) (ac (aa 6) af)))) (qK (uV (e:=e) (m:=5) (l:=[some (pI (i:Nat)),some (pI (7:Nat)),some (pI (d:Nat)),some (pI (3:Nat)),some (pI (6:Nat)),some (pI (4:Nat))]) r (by exact nA:N.length≤1000) h6 qP rfl))
 rw[aS (cr ((qo t1).trans t2))]
 have e1:aC 1002 mf (aa 0) (ac (aa 1) (ac (aa 5) (ac (am iq (aa 3) (ae (.int 1))) af))) [some (.ref 13),some (pI (i:Nat)),some (pI (7:Nat)),some (pI (d:Nat)),some (pI (3:Nat)),some (pI (6:Nat)),some (pI (4:Nat))] (bk e N Xz)=some (pI ((if i=6 then 1 else 2:Nat):Int),bk e N Xz):=by
  refine(bn (i:=13) (ps:=[pI (i:Nat),pI (6:Nat),pI ((d:Nat)+1:Int)]) (XA:=bk e N Xz) rfl (by rw[show(bk e N Xz)[13]?=_ from r];rfl) rfl).trans ((LI r o nA hi).trans ?_)
  split<;>rfl
 have e2:aC 1002 mf (aa 0) (ac (aa 1) (ac (aa 6) (ac (am iq (aa 3) (ae (.int 1))) af))) [some (.ref 13),some (pI (i:Nat)),some (pI (7:Nat)),some (pI (d:Nat)),some (pI (3:Nat)),some (pI (6:Nat)),some (pI (4:Nat))] (bk e N Xz)=some (pI ((aU N (bU 4 i)).1:Nat),bk e (aU N (bU 4 i)).2 (Xz++x1)) :=
  (bn (i:=13) (ps:=[pI (i:Nat),pI (4:Nat),pI ((d:Nat)+1:Int)]) (XA:=bk e N Xz) rfl (by rw[show(bk e N Xz)[13]?=_ from r];rfl) rfl).trans q1
 have hrun:run (jK s v) N=run (uW (if i=6 then 1 else 2) (aU N (bU 4 i)).1) (aU N (bU 4 i)).2:=by
  have hf:aU N (aM (v,1) s)=(i,N):=tO o.un hi hi1
  show run (.mk (bU 4 (aU N (aM (v,1) s)).1) fun j=>if(aU N (aM (v,1) s)).1=6 then _ else _) (aU N (aM (v,1) s)).2=_
  rw[hf]
  show run (if i=6 then _ else _) (aU N (bU 4 i)).2=_
  unfold uW
  by_cases h:i=6
  ·rw[if_pos h,if_pos h,if_pos rfl]
  ·rw[if_neg h,if_neg h,if_neg (by decide)]
 rw[hrun,bx (cp ((bn (i:=13) (ps:=[pI (3:Nat),pI ((if i=6 then 1 else 2:Nat):Int),pI ((aU N (bU 4 i)).1:Nat)]) (XA:=bk e (aU N (bU 4 i)).2 (Xz++x1)) rfl (by rw[show(bk e N Xz)[13]?=_ from r];rfl) (cC rfl (cC e1 (cP e2)))).trans q2)),← QF]
 rfl
end
noncomputable def cf(a b t:Int):Nat→Int:=fun u=>if u=4 then a else if u=5 then b else if u=7 then t else 0
noncomputable def gz(x y t:Int):Int :=
 let g:Int:=Rv (Rv x.natAbs y.natAbs) t.natAbs
 if x<0∨(x=0∧(y<0∨(y=0∧t<0))) then -g else g
noncomputable def cd(x y t:Int):Nat→Int:=cf (2*(x / gz x y t)) (2*(y / gz x y t)) (2*(t / gz x y t))
noncomputable def cB(x y t k:Int):Int×Int:=fF (-k) (gz x y t)
noncomputable def nz(x y t:Int):Bool:=!(x==0&&y==0&&t==0)
noncomputable def Hg(T:Tm)(b:Int×Int):Bool:=T.all (fun x=>decide (x.2.1.natAbs≤8)&&(x.2.2==1||x.2.2==2))&&decide (b.1.natAbs≤100)&&decide (0<b.2)&&decide (b.2≤6)
theorem Hh(h:Hg (cQ c) b=true):Hw (cQ c) b:=by
 simp only[Hg,Q4,UY,decide_eq_true_eq,SA,beq_iff_eq] at h
 refine⟨?_,fun x hx=>(h.1.1.1 x hx).1,fun x hx=>(h.1.1.1 x hx).2,h.1.1.2,h.1.2,h.2⟩
 rw[cQ,Qs]
 exact Q6 _ [4,5,7]
noncomputable def qt(cc x y t k:Int):Bool:=!nz x y t||(Hg (cQ (cf (cc*x) (cc*y) (cc*t))) (be (-(cc*k)))&&decide (nN (cQ (cf (cc*x) (cc*y) (cc*t))) (be (-(cc*k)))=(cQ (cd x y t),cB x y t k)))
noncomputable def vU(T:Tm)(b:Int×Int):Bool:=qL T (fun x=>decide (x.2=(1,1))&&(!(x.1==7)||(b.2==1&&decide (-4≤b.1)&&decide (b.1≤4)))) true
noncomputable def LK(x y t k:Int):Bool:=!nz x y t||(decide (gz x y t≠0)&&Hg (cQ (cd x y t)) (cB x y t k)&&decide (nN (cQ (cd x y t)) (cB x y t k)=(cQ (cd x y t),cB x y t k))&&decide (fF (cB x y t k).1 (cB x y t k).2=cB x y t k)&&vU (cQ (cd x y t)) (cB x y t k)
&&decide (x / gz x y t*gz x y t=x)&&decide (y / gz x y t*gz x y t=y)&&decide (t / gz x y t*gz x y t=t)&&decide ((cB x y t k).1*gz x y t =-k*(cB x y t k).2))
noncomputable def pq(f:Int→Int→Int→Int→Bool):Bool:=(QA 7).all fun i=>(QA 7).all fun j=>(QA 2).all fun t=>(QA 9).all fun k=>f ((i:Int) - 3) ((j:Int) - 3) (t:Int) ((k:Int) - 4)
structure nh (x y t k:Int):Prop where
 x : -3≤x∧x≤3
 y : -3≤y∧y≤3
 t:0≤t∧t≤1
 k : -4≤k∧k≤4
theorem rg{f:Int→Bool}(h:((QA n).all fun i=>f ((i:Int) - a))=true)(h1 : -a≤x∧x<n - a):f x=true:=by
 have q:=UY.mp h (x+a).toNat (W0.mpr (by lia))
 rwa [show(((x+a).toNat:Nat):Int) - a=x by lia] at q
theorem PO{x:Int}{f:Int→Bool}(h:((QA n).all fun i=>f (i:Int))=true)(h1:0≤x∧x<n):f x=true:=by
 have q:=UY.mp h x.toNat (W0.mpr (by lia))
 rwa [Int.toNat_of_nonneg h1.1] at q
theorem BH(h:pq f=true){x y t k:Int}(r:nh x y t k):f x y t k=true:=by
 have h1:=rg (n:=7) (a:=3) (f:=fun x=>(QA 7).all fun j=>(QA 2).all fun t=>(QA 9).all fun k=>f x ((j:Int) - 3) (t:Int) ((k:Int) - 4)) h ⟨r.x.1,Rb.mpr r.x.2⟩
 have h2:=rg (n:=7) (a:=3) (f:=fun y=>(QA 2).all fun t=>(QA 9).all fun k=>f x y (t:Int) ((k:Int) - 4)) h1 ⟨r.y.1,Rb.mpr r.y.2⟩
 have h3:=PO (n:=2) (f:=fun t=>(QA 9).all fun k=>f x y t ((k:Int) - 4)) h2 ⟨r.t.1,Rb.mpr r.t.2⟩
 exact rg (n:=9) (a:=4) (f:=f x y t) h3 ⟨r.k.1,Rb.mpr r.k.2⟩
theorem F8:pq LK=true:=by decide +kernel
theorem Ex:pq (qt 1)=true:=by decide +kernel
theorem BI:pq (qt (-1))=true:=by decide +kernel
theorem Ao:pq (qt 2)=true:=by decide +kernel
theorem wZ:pq (qt (-2))=true:=by decide +kernel
theorem LL:pq (qt 4)=true:=by decide +kernel
theorem IE:pq (qt (-4))=true:=by decide +kernel
noncomputable abbrev PQ(l:List α)(A:α→α→β)(B:β):β:=match l with
 | []=>B
 | a::r=>qL r (A a) B
noncomputable def dx(s x y t k:Int):Pg :=
 if nz x y t=false then .ret (if k=0 then 1 else 2)
 else if s=1∧(cB x y t k).2≠1 then .ret 2
 else if(decide ((cB x y t k).1=0)&&lL ((cQ (cd x y t)).map (·.2)))=true then PQ (cu (cd x y t)) (fun a b=>.mk (bU a b) .ret) (.ret 0)
 else qL (cu (cd x y t)) (fun u=>if u=7 then jK s (cB x y t k).1 else .mk (aM (cB x y t k) s) fun _=>eA s (cd x y t) (cB x y t k)) (eA s (cd x y t) (cB x y t k))
theorem BJ(x y t:Int)(u:Nat):∃ v,cd x y t u=2*v:=by
 unfold cd cf
 split
 ·exact⟨_,rfl⟩
 ·split
  ·exact⟨_,rfl⟩
  ·split
   ·exact⟨_,rfl⟩
   ·exact⟨0,rfl⟩
theorem qQ(h:x / g*g=x)(hg:g≠0)(hx : -3≤x∧x≤3): -3≤x / g∧x / g≤3:=by
 have h1:(x / g).natAbs≤x.natAbs:=Sw ..
 exact kR.mp (QH h1 (kR.mpr hx))
structure qR (x y t k:Int):Prop where
 g0:gz x y t≠0
 hw:Hw (cQ (cd x y t)) (cB x y t k)
 fix:nN (cQ (cd x y t)) (cB x y t k)=(cQ (cd x y t),cB x y t k)
 rat:fF (cB x y t k).1 (cB x y t k).2=cB x y t k
 one:vU (cQ (cd x y t)) (cB x y t k)=true
 ex:x / gz x y t*gz x y t=x
 ey:y / gz x y t*gz x y t=y
 et:t / gz x y t*gz x y t=t
 ek:(cB x y t k).1*gz x y t =-k*(cB x y t k).2
theorem qS(r:nh x y t k)(h:nz x y t=true):qR x y t k:=by
 revert x y t k
 refine @Kp _ _ _ _ _ nI ?_
 generalize q1 _=x,q2 _=y,q3 _=t,qe _=k
 intro r h
 have c:=BH F8 r
 unfold LK at c
 rw[h] at c
 simp only[Sc,S1,Q4,decide_eq_true_eq] at c
 obtain⟨⟨⟨⟨⟨⟨⟨⟨c1,c2⟩,c3⟩,c4⟩,c5⟩,c6⟩,c7⟩,c8⟩,c9⟩:=c
 exact⟨c1,Hh c2,c3,c4,c5,c6,c7,c8,c9⟩
theorem qR.ne(c:qR x y t k)(h:nz x y t=true):cu (cd x y t)≠[]:=fun q=>by
 have z:∀ u,tri u=true→cd x y t u=0:=fun u hu=>QG fun w=>by
  have:u∈cu (cd x y t):=RH.mpr ⟨by have:=dm.mp hu;simpa using this,by simpa using w⟩
  rw[q] at this
  cases this
 have h1:2*(x / gz x y t)=0:=z 4 rfl
 have h2:2*(y / gz x y t)=0:=z 5 rfl
 have h3:2*(t / gz x y t)=0:=z 7 rfl
 have x0:=c.ex
 have y0:=c.ey
 have t0:=c.et
 rw[show x / gz x y t=0 from by lia,Si] at x0
 rw[show y / gz x y t=0 from by lia,Si] at y0
 rw[show t / gz x y t=0 from by lia,Si] at t0
 subst x0 y0 t0
 exact absurd h (by decide)
theorem qR.cn(c:qR x y t k)(h:nz x y t=true):Cn (cQ (cd x y t)) (cB x y t k):=by
 refine⟨fun q=>c.ne h (T7.mp q),c.hw,fun w hw=>?_,c.fix⟩
 refine aH (QL.mp hw) fun u hu XX=>?_
 subst XX
 refine bM (BJ x y t u) fun v hv=>?_
 show(be (cd x y t u)).2=1
 rw[hv,kJ]
theorem qR.sml(c:qR x y t k)(r:nh x y t k)(u:Nat):In 1000 (cd x y t u):=by
 have h1:=qQ c.ex c.g0 r.x
 have h2:=qQ c.ey c.g0 r.y
 have h3:=qQ c.et c.g0 ⟨by have:=r.t;exact zE,by have:=r.t;exact zF⟩
 unfold cd cf In
 split
 ·lia
 ·split
  ·lia
  ·split<;>lia
theorem Ey(h:Int):gw (be h) (1,1)=be h:=zn h
section
variable {e:En} {N:List Nd} {Xz:List AO} {s x y t k cc:Int} {a b:Nat} {t1 t2:List Nat} {na:Nd}
theorem Hi (r:Rw Xz) (o:OK s N) (hl:N.length≤830) (T1:TS N s a t1) (T2:TS N s b t2) (R:nh x y t k) (hcc:cc≠0 ∧-4≤cc∧cc≤4) (hA:pq (qt cc)=true)
  (hc:∀ u,tri u=true→df N t1 u - df N t2 u=cf (cc*x) (cc*y) (cc*t) u) (hk:df N t1 0 - df N t2 0=cc*k) (ha:N[a]?=some na) (hna:na.sort=s) :
  ∃ ext,en [.ref 13,pI (a:Nat),pI (b:Nat)] (bk e N Xz)=some (pI ((run (dx s x y t k) N).1:Nat),bk e (run (dx s x y t k) N).2 (Xz++ext)):=by
 revert e N Xz s x y t k cc a b t1 t2 na
 refine @jV _ _ _ _ _ _ _ _ nI ?_
 generalize q1 _=e,q2 _=N,q3 _=Xz,q4 _=s,q5 _=x,q6 _=y,qe _=t
 refine @jV _ _ _ _ _ _ _ _ (bi nI (bi nI (bi nI (bi nI (bi nI (bi nI Bt)))))) ?_
 generalize q1 _=k,q2 _=cc,q3 _=a,q4 _=b,q5 _=t1,q6 _=t2,qe _=na
 intro r o hl T1 T2 R hcc hA hc hk ha hna
 refine bM (Ad (e:=e) (Xz:=Xz) (f:=aa 1) (g:=aa 2) (fb:=aE 1002 0 (aa 0)) (ρ:=eS a (pI (b:Nat)) (pI 0) [none,none,none,none,none,none]) nA o.unk T1 T2 (rwa r) rfl rfl) fun ext h1=>?_
 have hrow:(s5 (fun u=>df N t1 u - df N t2 u) (df N t1 0 - df N t2 0))=b6 (cQ (cf (cc*x) (cc*y) (cc*t))) (be (-(cc*k))):=by
  unfold s5 b6
  rw[hk,s7 hc,Ha]
 rw[hrow] at h1
 have rx:=r.ext ext
 have start:∀ {T B},nN (cQ (cf (cc*x) (cc*y) (cc*t))) (be (-(cc*k)))=(T,B)→Hw (cQ (cf (cc*x) (cc*y) (cc*t))) (be (-(cc*k)))→en [.ref 13,pI (a:Nat),pI (b:Nat)] (bk e N Xz)=aY (vQ (ah (aW (aC 1002 e9 (aa 0) (ac (aa 9) (ac (aq (aq (aa 6) (ae (.int 0))) (ae (.int 0))) (ac (aa 3) af))))) az) (eS a (pI (b:Nat)) (pI 0) [some (.dat (b6 T B)),none,none,none,none,none]) (bk e N (Xz++ext))):=fun {T B} hT hw=>by
  have w1:=qq (Xx:=bk e N (Xz++ext)) hw
  rw[hT] at w1
  show aY (js (eS a (pI (b:Nat)) (pI 0) [none,none,none,none,none,none]) (bk e N Xz))=_
  rw[M6]
  have s4:Hc (eS a (pI (b:Nat)) (pI 0) [none,none,none,none,none,none]) (bk e N Xz)=some (.next,eS a (pI (b:Nat)) (pI 0) [some (.dat (b6 T B)),none,none,none,none,none],bk e N (Xz++ext)):=by
   exact dJ ((bO (cP h1)).trans w1)
  rw[aS s4]
 have hck:(-(cc*k)).natAbs≤100:=by
  rw[Int.natAbs_neg,RX]
  exact QH (show _≤4*4 from SS (kR.mpr (by lia)) (kR.mpr R.k)) (by decide)
 by_cases hz:nz x y t=false
 ·
  have hxyt:x=0∧y=0∧t=0:=by simpa [nz,and_assoc] using hz
  refine iL (hxyt) fun XV XW XX=>?_
  subst XV XW XX
  have e0:cQ (cf (cc*0) (cc*0) (cc*0))=[]:=by rw[Wa];rfl
  have hw:Hw (cQ (cf (cc*0) (cc*0) (cc*0))) (be (-(cc*k))):=by
   rw[e0]
   refine⟨by simp,by simp,by simp,?_⟩
   unfold be
   split
   ·refine⟨?_,?_,?_⟩
    ·exact QH (Sw ..) hck
    ·show(0:Int)<1;decide
    ·show(1:Int)≤6;decide
   ·refine⟨?_,?_,?_⟩
    ·exact hck
    ·show(0:Int)<2;decide
    ·show(2:Int)≤6;decide
  have hT:nN (cQ (cf (cc*0) (cc*0) (cc*0))) (be (-(cc*k)))=([],be (-(cc*k))):=by
   rw[e0]
   show([],gw (be (-(cc*k))) (1,1))=_
   rw[Ey]
  rw[start hT hw]
  have hB:Sz 10000 10000 (be (-(cc*k))):=⟨by have:=hw.bd.1;exact nA,by have:=hw.bd.2;exact zA⟩
  refine⟨ext,?_⟩
  rw[IA rx hB]
  unfold dx
  rw[if_pos hz]
  have:(be (-(cc*k))).1=0↔k=0:=by
   rw[zp]
   constructor
   ·intro h
    have:cc*k=0:=by lia
    rcases R4.mp this with h | h
    ·exact absurd h hcc.1
    ·exact h
   ·intro h;rw[h];simp
  by_cases h0:k=0
  ·rw[if_pos (this.mpr h0),if_pos h0];rfl
  ·rw[if_neg (fun q=>h0 (this.mp q)),if_neg h0];rfl
 ·have hz:nz x y t=true:=by simpa using hz
  have can:=qS R hz
  have cn:=can.cn hz
  have A:=BH hA R
  unfold qt at A
  rw[hz] at A
  simp only[Sc,S1,Q4,decide_eq_true_eq] at A
  have Xx:=start A.2 (Hh A.1)
  have hN:∀ z∈cQ (cd x y t),∃ n,N[z.1]?=some n∧n.sort=s:=fun z hz=>by
   refine aH (QL.mp hz) fun u hu XX=>?_
   subst XX
   refine d9 (o.tri (fA hu).1) fun n n1 n2 _=>?_
   exact⟨n,n1,n2⟩
  refine bA (BC (e:=e) (N:=N) (Xz:=Xz++ext) (s:=s) (a:=a) (b:=pI (b:Nat)) (dp:=pI 0) (T:=cQ (cd x y t)) (B:=cB x y t k) (X:=ah (aW (aC 1002 e9 (aa 0) (ac (aa 9) (ac (aq (aq (aa 6) (ae (.int 0))) (ae (.int 0))) (ac (aa 3) af))))) az) (o5:=none) (o6:=none) (o7:=none) (o8:=none) (o9:=none) rx nA cn o.so hN) fun p1 p2=>?_
  rw[Xx]
  unfold dx
  rw[if_neg (by rw[hz];decide)]
  by_cases hh:s=1∧(cB x y t k).2≠1
  ·rw[if_pos hh,p1 hh]
   exact⟨ext,rfl⟩
  ·rw[if_neg hh,p2 hh]
   have hBw:s=1→(cB x y t k).2=1:=fun q=>QG fun w=>hh ⟨q,w⟩
   have Yn:=can.hw.bd
   have hB:Sz 10000 98 (cB x y t k):=⟨by exact kR.mpr O8,by exact Pa⟩
   have hsm:=hB.sm (by decide) (by decide)
   have hw2:s=1→∀ u,tri u=true→(be (cd x y t u)).2=1:=fun _ u _=>by
    refine bM (BJ x y t u) fun v hv=>?_
    rw[hv,kJ]
   have Yo:(cu (cd x y t)).Nodup:=Sr RY (by decide)
   cases hp:(decide ((cB x y t k).1=0)&&lL ((cQ (cd x y t)).map (·.2))) with
   | true =>
    rw[if_pos rfl]
    have XQ:(cu (cd x y t)).length=2:=by
     have:=(TY.mp hp).2
     unfold lL at this
     have hm:((cQ (cd x y t)).map (·.2)).length=(cu (cd x y t)).length:=by rw[Qs,cQ,Qs]
     simp only[SA,decide_eq_true_eq] at this
     rcases this with q | q<;>rw[q] at hm<;>exact hm.symm
    refine jW (CC XQ) fun u w hq=>?_
    rw[hq]
    have hu:=o.tri (fA (c:=cd x y t) (u:=u) (by rw[hq];simp)).1
    have hw':=o.tri (fA (c:=cd x y t) (u:=w) (by rw[hq];simp)).1
    refine d9 (hu) fun n0 a1 a2 _=>?_
    refine d9 (hw') fun n1 b1 b2 _=>?_
    have XU:u≠w:=fun q=>by rw[hq,q] at Yo;simp at Yo
    have hT:cQ (cd x y t)=[(u,be (cd x y t u)),(w,be (cd x y t w))]:=by rw[cQ,hq];rfl
    rw[hT] at hp ⊢
    exact⟨ext,F4 rx o nA hp a1 b1 (b2.trans a2.symm) XU⟩
   | false =>
    rw[if_neg (by decide)]
    by_cases h1:(cu (cd x y t)).length=1
    ·refine bM (yW h1) fun u hq=>?_
     rw[hq]
     refine bA (fA (c:=cd x y t) (u:=u) (by rw[hq];simp)) fun htu _=>?_
     refine d9 (o.tri htu) fun nu u1 u2 u3=>?_
     have sg:=can.one
     have hT0:cQ (cd x y t)=[(u,be (cd x y t u))]:=by rw[cQ,hq];rfl
     rw[hT0] at sg
     simp only[vU,qL,Q4,decide_eq_true_eq] at sg
     have hT:cQ (cd x y t)=[(u,(1,1))]:=by rw[hT0,sg.1]
     by_cases h7:u=7
     ·dsimp only[qL]
      rw[if_pos h7]
      subst h7
      have sg2:=sg.2
      simp only[beq_self_eq_true,Sc,S1,Q4,beq_iff_eq,decide_eq_true_eq] at sg2
      have hB1:cB x y t k=((cB x y t k).1,1):=TV rfl sg2.1.1
      have u3':nu.op=("ite":Str):=by
       have h7':N[7]?=some ⟨"ite",[3,6,4],s,.inl 0⟩:=o.at rfl
       rw[h7'] at u1
       obtain rfl:=cE u1
       rfl
      have at1:=dU (N:=N) (n:=aM (cB x y t k) s) (by have:=o.len;exact nB)
      have ln:=fB N (aM (cB x y t k) s)
      refine bM (wY (e:=e) (Xz:=Xz++ext) (d:=0) (by decide) rx (o.add (aM (cB x y t k) s)) yq (hB1▸at1.1) at1.2 ⟨sg2.1.2,sg2.2⟩) fun x2 ch=>?_
      refine⟨ext++x2,?_⟩
      rw[hT]
      rw[Es (p:=pI ((run (jK s (cB x y t k).1) (aU N (aM (cB x y t k) s)).2).1:Nat)) (Yg:=eR a (pI (b:Nat)) (pI 0) [(7,(1,1))] (cB x y t k) (some (pI ((aU N (aM (cB x y t k) s)).1:Nat)))) (XK:=bk e (run (jK s (cB x y t k).1) (aU N (aM (cB x y t k) s)).2).2 ((Xz++ext)++x2)) rx o nA ha hna u1 u3' hB hBw can.rat (bx (cp ((bn (i:=13) (ps:=[pI ((aU N (aM (cB x y t k) s)).1:Nat),pI (7:Nat),pI (0:Nat)]) (XA:=bk e (aU N (aM (cB x y t k) s)).2 (Xz++ext)) rfl (by rw[show(bk e _ (Xz++ext))[13]?=_ from rx];rfl) rfl).trans ch)))]
      have hrun:run (jK s (cB x y t k).1) (aU N (aM (cB x y t k) s)).2=run (jK s (cB x y t k).1) N:=by
       have hf:aU (aU N (aM (cB x y t k) s)).2 (aM ((cB x y t k).1,1) s)=aU N (aM ((cB x y t k).1,1) s):=by
        rw[← hB1]
        have o1:=o.add (aM (cB x y t k) s)
        rw[tO o1.un at1.1 at1.2]
       show run ((fun i=>_) (aU (aU N (aM (cB x y t k) s)).2 (aM ((cB x y t k).1,1) s)).1) (aU (aU N (aM (cB x y t k) s)).2 (aM ((cB x y t k).1,1) s)).2=_
       rw[hf]
       rfl
      rw[hrun,QF]
     ·dsimp only[qL]
      rw[if_neg h7]
      have u3':nu.op=("app":Str):=by
       rcases dm.mp htu with rfl | rfl | rfl
       ·rw[o.at (i:=4) rfl] at u1;cases u1;rfl
       ·rw[o.at (i:=5) rfl] at u1;cases u1;rfl
       ·exact absurd rfl h7
      refine bM (BF (e:=e) (Xz:=Xz++ext) (X:=ah (aW (aC 1002 e9 (aa 0) (ac (aa 9) (ac (aq (aq (aa 6) (ae (.int 0))) (ae (.int 0))) (ac (aa 3) af))))) az) (b:=pI (b:Nat)) (dp:=pI 0) (o9:=none) (c:=cd x y t) (B:=cB x y t k) rx o nA ha hna hT u1 u3' (can.sml R) hw2 hB hBw can.rat) fun x2 ev=>?_
      exact⟨ext++x2,by rw[← QF];exact ev⟩
    ·refine bM (F5 (e:=e) (Xz:=Xz++ext) (X:=ah (aW (aC 1002 e9 (aa 0) (ac (aa 9) (ac (aq (aq (aa 6) (ae (.int 0))) (ae (.int 0))) (ac (aa 3) af))))) az) (b:=pI (b:Nat)) (dp:=pI 0) (o9:=none) (c:=cd x y t) (B:=cB x y t k) rx o nA ha hna hp (by rw[cQ,Qs];exact h1) (can.ne hz) (can.sml R) hw2 hsm hBw) fun x2 ev=>?_
     refine⟨ext++x2,?_⟩
     rw[← QF]
     rw[zJ h1]
     exact ev
end
theorem il(hc:XR Xx j=some (some p))(hg:g p ρ=some X6)(ht:t X6 Xx=some (true,XA))(hF:F X6 acc XA=some (X7,acc₂,XB))(h:eT XR g t F n (j+1) X7 acc₂ XB=r):
  eT XR g t F (n+1) j ρ acc Xx=r:=by
 rw[Bp]
 rw[hc]
 dsimp only[lJ,pJ,QQ]
 rw[hg]
 dsimp only
 rw[ht]
 dsimp only
 rw[hF]
 exact h
theorem uX(hc:XR Xx j=some none):eT XR g t F 0 j ρ acc Xx=some (ρ,acc,Xx):=by
 rw[Bq]
 rw[hc]
theorem qu(h:f ρ Xx=some (p,XA))(hl:acc.length<1000):cq f ρ acc Xx=some (ρ,acc++[p],XA):=by
 unfold cq
 rw[h]
 dsimp only[pP]
 rw[if_pos (by lia)]
noncomputable def hs(s h:Int):Int:=if s=1 then 2*h else h
theorem mq(hss:s=1∨s=2):cN [pI s,pI h] Xx=some (.dat (Dh (hs s h)),Xx):=by
 revert s h Xx
 refine @kT _ _ _ _ nI ?_
 generalize q1 _=s,q2 _=h,qe _=Xx
 intro hss
 show aY (oW [some (pI s),some (pI h)] Xx)=_
 unfold oW
 rcases hss with rfl | rfl
 ·rw[bx ((eJ (bB (aV (a:=.int 1) (b:=.int 1) (r:=.bool true) rfl rfl rfl))).trans (bx (cp rfl)))]
  show some (PV.dat (Q h 1),Xx)=some (PV.dat (Qp (be (2*h))),Xx)
  rw[kJ]
 ·rw[aS (cr (bB (aV (a:=.int 2) (b:=.int 1) (r:=.bool false) rfl rfl rfl)))]
  have m:gO (.int h) (.int 2)=some (.int (h % 2)):=by rw[m9 (by decide),RF _ (by decide)]
  have t:ao (am (aP fun a b=>a==b) (am gO (aa 1) (ae (.int 2))) (ae (.int 0))) [some (pI 2),some (pI h)] Xx=some (decide (h % 2=0),Xx) :=
   bB (aV (b:=.int 0) (aV (a:=.int h) (b:=.int 2) rfl rfl m) rfl (by show some (QT (h % 2==0))=_;congr 2))
  show _=some (PV.dat (Qp (be h)),Xx)
  unfold be
  by_cases hh:h % 2=0
  ·rw[decide_eq_true hh] at t
   have d:fu (.int h) (.int 2)=some (.int (h / 2)):=by rw[lz (by decide) (by decide),Re _ (by decide)]
   have v:bp (ac (am fu (aa 1) (ae (.int 2))) (ac (ae (.int 1)) af)) [some (pI 2),some (pI h)] Xx=some (.dat (Q (h / 2) 1),Xx):=by
    unfold bp
    rw[cC (aV (a:=.int h) (b:=.int 2) rfl rfl d) (cP rfl)]
    rfl
   rw[bx (cp ((ml t).trans v)),if_pos hh]
   rfl
  ·rw[decide_eq_false hh] at t
   rw[bx (cp ((j4 t).trans rfl)),if_neg hh]
   rfl
noncomputable abbrev dC(cs:List Int)(p:Nat):AO:=AO.list [.dat (.list (cs.map .int)),pI (p:Nat)]
structure Cs (cs:List Int):Prop where
 few:cs.length≤50
 sm:∀ c∈cs,0≤c∧c<10103
theorem vV(C:Cs cs)(h0:Xx[0]?=some (dC cs p))(hp:p<1000)(ht:0<top∧top<100):
  ∃ v,bT [.ref 0,pI top] Xx=some (pI v,Xx.set 0 (dC cs (p+1)))∧0≤v∧v<top:=by
 have hl:=C.few
 have sm:small (cs.map QY)=true:=by simp[small];exact nA
 show ∃ v,aY (sS [some (.ref 0),some (pI top),none,none] Xx)=_∧_
 unfold sS
 have u1:Cw [2,3] (aa 0) [some (.ref 0),some (pI top),none,none] Xx=some (.next,[some (.ref 0),some (pI top),some (.dat (.list (cs.map .int))),some (pI (p:Nat))],Xx):=by
  show d7 kM Xx[0]? (fun l=>(jd [2,3] l [some (.ref 0),some (pI top),none,none]).map fun X6=>(Fl.next,X6,Xx))=_
  rw[h0]
  rfl
 have s1:gj (am iq (aa 3) (ae (.int 1))) (aa 0) (ae (.int 1)) [some (.ref 0),some (pI top),some (.dat (.list (cs.map .int))),some (pI (p:Nat))] Xx=some (.next,[some (.ref 0),some (pI top),some (.dat (.list (cs.map .int))),some (pI (p:Nat))],Xx.set 0 (dC cs (p+1))):=by
  refine sX (q:=pI ((p:Int)+1)) (p:=.ref 0) (k:=1) rfl rfl rfl ?_
  unfold re
  dsimp only[QQ]
  rw[h0]
  rfl
 rw[aS u1,aS s1]
 have len:dw (ac (aa 2) af) [some (.ref 0),some (pI top),some (.dat (.list (cs.map .int))),some (pI (p:Nat))] (Xx.set 0 (dC cs (p+1)))=some (pI (cs.length:Nat),Xx.set 0 (dC cs (p+1))):=by
  show(if small (cs.map QY) then some (cs.map QY).length else none).map _=_
  rw[sm,if_pos rfl,Qs]
  rfl
 have t1:ao (am (aP fun a b=>decide (a<b)) (aa 3) (dw (ac (aa 2) af))) [some (.ref 0),some (pI top),some (.dat (.list (cs.map .int))),some (pI (p:Nat))] (Xx.set 0 (dC cs (p+1)))=some (decide (p<cs.length),Xx.set 0 (dC cs (p+1))) :=
  bB (aV (a:=.int (p:Nat)) (b:=.int (cs.length:Nat)) rfl len (by show some (QT (decide ((p:Int)<(cs.length:Nat))))=_;congr 3;simp))
 have fin:∀ x:Int,0≤x.fmod top∧x.fmod top<top:=fun x=>by
  rw[RF _ (by lia)]
  exact⟨Int.emod_nonneg _ (by lia),Int.emod_lt_of_pos _ ht.1⟩
 by_cases h:p<cs.length
 ·rw[decide_eq_true h] at t1
  refine⟨(cs[p]).fmod top,?_,fin _⟩
  have su:aq (aa 2) (aa 3) [some (.ref 0),some (pI top),some (.dat (.list (cs.map .int))),some (pI (p:Nat))] (Xx.set 0 (dC cs (p+1)))=some (pI cs[p],Xx.set 0 (dC cs (p+1))):=by
   refine gW (p:=.dat (.list (cs.map .int))) (k:=(p:Nat)) rfl rfl ?_
   unfold iW
   rw[if_pos (by lia)]
   simp[h]
  rw[bx ((eJ t1).trans (bx (cp (aV su rfl (m9 (by lia))))))]
  rfl
 ·rw[decide_eq_false h] at t1
  have hpp:0≤(5:Int)*p*p∧(5:Int)*p*p≤5000000:=by
   have h1:(p:Int)*p≤1000*1000:=TB (by lia) (by lia) (RE _) (by decide)
   have h2:0≤(p:Int)*p:=Int.mul_nonneg (RE _) (RE _)
   rw[QK]
   lia
  refine⟨((5*(p:Int)*p+9*p+4*(cs.length:Nat)+6).fmod 71).fmod top,?_,fin _⟩
  have m1:am bR (am bR (ae (.int 5)) (aa 3)) (aa 3) [some (.ref 0),some (pI top),some (.dat (.list (cs.map .int))),some (pI (p:Nat))] (Xx.set 0 (dC cs (p+1)))=some (pI (5*(p:Int)*p),Xx.set 0 (dC cs (p+1))) :=
   aV (aV rfl rfl (dP (by decide) (by decide))) rfl (dP (RE _) (by lia))
  have m2:am bR (ae (.int 9)) (aa 3) [some (.ref 0),some (pI top),some (.dat (.list (cs.map .int))),some (pI (p:Nat))] (Xx.set 0 (dC cs (p+1)))=some (pI (9*(p:Int)),Xx.set 0 (dC cs (p+1))) :=
   aV rfl rfl (dP (by decide) (by decide))
  have m3:am bR (ae (.int 4)) (dw (ac (aa 2) af)) [some (.ref 0),some (pI top),some (.dat (.list (cs.map .int))),some (pI (p:Nat))] (Xx.set 0 (dC cs (p+1)))=some (pI (4*(cs.length:Nat)),Xx.set 0 (dC cs (p+1))) :=
   aV rfl len (dP (by decide) (by decide))
  rw[aS (cr t1),bx (cp (aV (aV (aV (aV (aV m1 m2 rfl) m3 rfl) rfl rfl) rfl (m9 (by decide))) rfl (m9 (by lia))))]
  rfl
theorem F9(C:Cs cs)(h0:Xx[0]?=some (dC cs p))(hp:p<900):
  ∃ x y z w:Int,jH [.ref 0,.dat (.list [.int a,.int b,.int c,.int d])] Xx=some (.dat (.tuple [.list [.int (a+x),.int (b+y),.int (c+z),.int (d+w)],.list [.int x,.int y,.int z,.int w]]),Xx.set 0 (dC cs (p+4))) ∧
   In 1 x∧In 1 y∧In 1 z∧In 1 w:=by
 revert cs Xx p a b c d
 refine @jV _ _ _ _ _ _ _ _ nI ?_
 generalize q1 _=cs,q2 _=Xx,q3 _=p,q4 _=a,q5 _=b,q6 _=c,qe _=d
 intro C h0 hp
 refine cps fun G kG=>?_
 have hset:∀ q,(Xx.set 0 (dC cs q))[0]?=some (dC cs q):=fun q=>RW (Qt.mp h0).1
 refine d9 (vV C h0 nA (top:=3) (by decide)) fun x d1 x1 x2=>?_
 refine d9 (vV C (hset (p+1)) nC (top:=3) (by decide)) fun y d2 y1 y2=>?_
 rw[Wb] at d2
 refine d9 (vV C (hset (p+2)) (by lia) (top:=3) (by decide)) fun z d3 z1 z2=>?_
 rw[Wb] at d3
 refine d9 (vV C (hset (p+3)) (by lia) (top:=3) (by decide)) fun w d4 w1 w2=>?_
 rw[Wb] at d4
 refine kG ?_
 refine⟨x - 1,y - 1,z - 1,w - 1,?_,by unfold In;lia,by unfold In;lia,by unfold In;lia,by unfold In;lia⟩
 show aY (oX [some (.ref 0),some (.dat (.list [.int a,.int b,.int c,.int d])),none] Xx)=_
 unfold oX
 have body:∀ {o:Option PV} {v:Int} {Xx XK:St},bT [.ref 0,pI 3] Xx=some (pI v,XK)→am eQ (aI bT (ac (aa 1) (ac (ae (.int 3)) af))) (ae (.int 1)) [o,some (.ref 0)] Xx=some (pI (v - 1),XK):=fun {o v Xx XK} h=>aV ((bO rfl).trans h) rfl rfl
 have c1:eT (cA [.int a,.int b,.int c,.int d]) (bZ 0) dn (cq (am eQ (aI bT (ac (aa 1) (ac (ae (.int 3)) af))) (ae (.int 1)))) 4 0 [none,some (.ref 0)] [] Xx=some ([some (pI d),some (.ref 0)],[pI (x - 1),pI (y - 1),pI (z - 1),pI (w - 1)],Xx.set 0 (dC cs (p+4))) :=
  il rfl rfl rfl (qu (body d1) (by simp)) (il rfl rfl rfl (qu (body d2) (by simp)) (il rfl rfl rfl (qu (body d3) (by simp)) (il rfl rfl rfl (qu (body d4) (by simp)) (uX rfl))))
 have s1:dN 2 (cF (aa 1)) 1 [0] (bZ 0) dn (cq (am eQ (aI bT (ac (aa 1) (ac (ae (.int 3)) af))) (ae (.int 1)))) [some (.ref 0),some (.dat (.list [.int a,.int b,.int c,.int d])),none] Xx=some (.next,[some (.ref 0),some (.dat (.list [.int a,.int b,.int c,.int d])),some (.dat (.list [.int (x - 1),.int (y - 1),.int (z - 1),.int (w - 1)]))],Xx.set 0 (dC cs (p+4))):=by
  unfold dN
  rw[gB (f:=aa 1) (xs:=[.int a,.int b,.int c,.int d]) (.inl rfl) (by simp)]
  dsimp only[p3]
  rw[show ib 1 [0] [some (.ref 0),some (.dat (.list [.int a,.int b,.int c,.int d])),none]=[none,some (.ref 0)] from rfl,show([QY a,.int b,.int c,.int d]).length=4 from rfl,c1]
  rfl
 rw[aS s1]
 rfl
theorem tR(o:OK s N)(m:Mo N s k u h):ff N k=(u,h):=by
 cases m with
 | unk hk _ _=>exact(o.unk k (dm.mpr hk)).2
 | num a =>
  unfold ff
  rw[a]
  show(0,yl (aM (be h) s).dt)=_
  rw[xA]
 | mul a b _ =>
  unfold ff
  rw[a]
  dsimp only[mC]
  simp only[Int.toNat_natCast]
  rw[b]
  dsimp only
  rw[xA]
theorem Ap(p:N <+: N')(m:Mo N s k u h):Mo N' s k u h:=by
 cases m with
 | unk hk a b=>exact .unk hk (b7 p a) b
 | num a=>exact .num (b7 p a)
 | mul a b c=>exact .mul (b7 p a) (b7 p b) c
theorem Aq(o:OK s N)(hu:tri u=true):Mo (dH N (be h) s u).2 s (dH N (be h) s u).1 u h:=by
 unfold dH
 split
 ·rename_i h1
  obtain⟨⟨n,a,b⟩,_⟩:=o.unk u hu
  have:h=2:=by
   unfold be at h1
   split at h1
   ·have:=congrArg Vy h1
    simp at this
    lia
   ·have:=congrArg Xs h1
    simp at this
  subst this
  exact .unk (dm.mp hu) a b
 ·have a1:=dU (N:=N) (n:=aM (be h) s) (by have:=o.len;exact nB)
  have o1:=o.add (aM (be h) s)
  have a2:=dU (N:=(aU N (aM (be h) s)).2) (n:=mC (be h) s (aU N (aM (be h) s)).1 u) (by have:=o1.len;exact nB)
  exact .mul a2.1 (b7 (db ..) a1.1) (dm.mp hu)
inductive Ms (N:List Nd) (s:Int):List Nat→List (Nat×Int)→Prop
 | nil:Ms N s [] []
 | cons {t x ts l}:Mo N s t x.1 x.2→Ms N s ts l→Ms N s (t::ts) (x::l)
theorem Ms.ext(p:N <+: N')(m:Ms N s ts l):Ms N' s ts l:=by
 induction m with
 | nil=>exact .nil
 | cons h _ ih=>exact .cons (Ap p h) ih
theorem Ms.snoc(m:Ms N s ts l)(h:Mo N s t x.1 x.2):Ms N s (ts++[t]) (l++[x]):=by
 induction m with
 | nil=>exact .cons h .nil
 | cons q _ ih=>exact .cons q ih
theorem Ms.map(o:OK s N)(m:Ms N s ts l):ts.map (ff N)=l:=by
 induction m with
 | nil=>rfl
 | cons h _ ih=>rw[QX,ih,tR o h]
theorem Ms.mem(m:Ms N s ts l):∀ t∈ts,∃ x∈l,Mo N s t x.1 x.2:=by
 induction m with
 | nil=>intro t h;cases h
 | cons h _ ih =>
  intro t ht
  rcases QJ.mp ht with rfl | ht
  ·exact⟨_,.head _,h⟩
  ·refine aH (ih t ht) fun x hx q=>?_
   exact⟨x,.tail _ hx,q⟩
theorem Ms.sum(o:OK s N)(m:Ms N s ts l)(y:Nat):df N ts y=(l.map fun x=>if x.1=y then x.2 else 0).sum:=by
 rw[← m.map o,Ra]
 rfl
theorem Ms.ts{ts:List Nat}(o:OK s N)(m:Ms N s ts l)(nd:(l.map (·.1)).Nodup)(hl:l.length≤4)(hb:∀ x∈l,In 1000 x.2)(hi:ts=[t]∨N[t]?=some (dz ts s)):TS N s t ts:=by
 refine⟨hi,?_,?_,fun k hk=>?_⟩
 ·rw[← m.map o,Ra] at nd
  exact(List.pairwise_map.mp nd).imp fun h q=>h (congrArg (fun k=>(ff N k).1) q)
 ·rw[← m.map o,Qs] at hl
  exact hl
 ·refine aH (m.mem k hk) fun x hx q=>?_
  exact⟨x.1,x.2,q,tR o q,hb x hx⟩
noncomputable abbrev uL(a b c:Int):List (Nat×Int):=[(4,a),(5,b),(7,c)]
noncomputable def lD(s a b c:Int):List (Nat×Int):=((uL a b c).filter fun x=>x.2≠0).map fun x=>(x.1,hs s x.2)
section
variable {e:En} {N:List Nd} {Xz:List AO} {s:Int}
theorem IG(o:OK s N)(m:Mo N s k u h):∃ n,N[k]?=some n∧n.sort=s:=by
 cases m with
 | unk hk a b =>
  refine d9 (o.tri (dm.mpr hk)) fun n n1 n2 _=>?_
  exact⟨n,n1,n2⟩
 | num a=>exact⟨_,a,rfl⟩
 | mul a _ _=>exact⟨_,a,rfl⟩
theorem C5(b:In 20 h):In 40 (hs s h):=by unfold hs In at *;split<;>lia
theorem Ez(o:OK s N)(hl:N.length≤900)(hu:tri u=true)(hb:In 20 h):aC 688 ir (aa 2) (ac (aI cN (ac (aa 3) (ac (aa 1) af))) (ac (aa 0) af)) [some (pI (u:Nat)),some (pI h),some (.ref 1),some (pI s)] (bk e N Xz)=some (pI ((dH N (be (hs s h)) s u).1:Nat),bk e (dH N (be (hs s h)) s u).2 Xz):=by
 refine d9 (o.tri hu) fun n n1 n2 n3=>?_
 have hsm:Sm (be (hs s h)):=Bd.sm (by have:=C5 (s:=s) hb;unfold In at this;unfold Bd;exact zB)
 have v:=Bv (e:=e) (Xz:=Xz) (by have:=o.len;exact nB) nA n1 hsm (n2▸o.so) (fun q=>by
  have:s=1:=n2▸q
  show(be (hs s h)).2=1
  unfold hs
  rw[if_pos this,kJ]) (by rcases n3 with h | h<;>rw[h]<;>first | exact fQ | exact gl) (by rcases n3 with h | h<;>rw[h]<;>decide)
 rw[n2] at v
 exact(bn (i:=1) (ps:=[.dat (Dh (hs s h)),pI (u:Nat)]) (XA:=bk e N Xz) rfl rfl (cC ((bO rfl).trans (mq o.so)) rfl)).trans v
noncomputable abbrev BK:TF:=ao (am (aP fun a b=>a !=b) (aa 1) (ae (.int 0)))
noncomputable abbrev Hj:EF:=aC 688 ir (aa 2) (ac (aI cN (ac (aa 3) (ac (aa 1) af))) (ac (aa 0) af))
noncomputable abbrev Hk:EF:=aC 688 fY (aa 0) (ac (aI cN (ac (aa 2) (ac (aq (aa 3) (ae (.int 3))) af))) (ac (aa 2) af))
noncomputable abbrev LM:EF:=gd (ac (yN (aa 4) (dT (ac Hk af))) af)
noncomputable abbrev ui(s a b c k:Int)(o:Option PV):Sl:=[some (.ref 1),some (.ref 11),some (pI s),some (.dat (.list [.int a,.int b,.int c,.int k])),o]
theorem EA:rD=ah (dN 4 (lU (ac (aa 1) (ac (aa 3) af))) 2 [0,2] (eG [0,1]) BK (cq Hj)) (ah (aW (aC 688 oU (aa 0) (ac LM af))) az):=rfl
theorem Ms.len{ts:List Nat}(m:Ms N s ts l):ts.length=l.length:=by
 induction m with
 | nil=>rfl
 | cons _ _ ih=>exact congrArg Nat.succ ih
theorem g9{a b c:Nat}(h:a≤b)(w:b≤c):a≤c:=QH h w
noncomputable def SI(e:En)(N:List Nd)(Xz:List AO)(s a b c:Int)(j:Nat)(ρ:Sl)(acc:List PV)(Xx:St):Prop :=
 ∃ N' ts,(∃ o1 o2,ρ=[o1,o2,some (.ref 1),some (pI s)])∧Xx=bk e N' Xz∧(OK s N'∧N <+: N')∧N'.length≤N.length+2*j∧acc=tP ts∧Ms N' s ts ((((uL a b c).take j).filter fun x=>x.2≠0).map fun x=>(x.1,hs s x.2))
theorem BL:BK [o,some (pI h),u,v] Xx=some (decide (h≠0),Xx) :=
 bB (aV (a:=.int h) (b:=.int 0) rfl rfl (by show some (QT (h !=0))=_;congr 2;by_cases q:h=0<;>simp[q]))
theorem LN(a b c:Int)(j:Nat):(((uL a b c).take j).filter fun x=>x.2≠0).length≤3:=g9 (Q6 _ _) (g9 (List.length_take_le' j (uL a b c)) (QZ 3))
theorem NX{j:Nat}(h:j<3):j=0∨j=1∨j=2:=by lia
theorem IH(hl:N.length≤850)(ha:In 20 a)(hb:In 20 b)(hc:In 20 c)(hj:j<3)(q:SI e N Xz s a b c j ρ acc Xx):
  ∃ X6,eG [0,1] (.dat (.tuple [.int (((uL a b c)[j]?.getD (0,0)).1:Nat),.int ((uL a b c)[j]?.getD (0,0)).2])) ρ=some X6∧((∃ XA,BK X6 Xx=some (false,XA)∧SI e N Xz s a b c (j+1) X6 acc XA)∨∃ XA X7 acc₂ XB,BK X6 Xx=some (true,XA)∧cq Hj X6 acc XA=some (X7,acc₂,XB)∧SI e N Xz s a b c (j+1) X7 acc₂ XB):=by
 revert e N Xz s a b c j ρ acc Xx
 refine @Kr _ _ _ _ _ _ _ _ _ _ _ _ nI ?_
 generalize q1 _=e,q2 _=N,q3 _=Xz,q4 _=s,q5 _=a,q6 _=b,q7 _=c,q8 _=j,q9 _=ρ,lI _=acc,qe _=Xx
 intro hl ha hb hc hj q
 obtain⟨N',ts,⟨o1,o2,q1⟩,q2,q3,q4,q5,q6⟩:=q
 have hx:∃ u h,(uL a b c)[j]?.getD (0,0)=(u,h)∧tri u=true∧In 20 h∧(uL a b c).take (j+1)=(uL a b c).take j++[(u,h)]:=by
  clear q1 q2 q3 q4 q5 q6
  rcases NX hj with rfl | rfl | rfl
  ·exact⟨_,_,rfl,rfl,ha,rfl⟩
  ·exact⟨_,_,rfl,rfl,hb,rfl⟩
  ·exact⟨_,_,rfl,rfl,hc,rfl⟩
 refine GC (hx) fun u h e1 hu1 hu2 htk=>?_
 subst q1 q2 q5
 have XQ:=q6.len
 rw[Qs] at XQ
 have XQ:=XQ▸LN a b c j
 have hl':N'.length≤860:=by clear q6 htk XQ;lia
 rw[e1]
 refine⟨[some (pI (u:Nat)),some (pI h),some (.ref 1),some (pI s)],rfl,?_⟩
 have ap:((((uL a b c).take (j+1)).filter fun x=>x.2≠0).map fun x=>(x.1,hs s x.2))=((((uL a b c).take j).filter fun x=>x.2≠0).map fun x=>(x.1,hs s x.2))++(([(u,h)].filter fun x:Nat×Int=>decide (x.2≠0)).map fun x=>(x.1,hs s x.2)):=by rw[htk,Uo,RZ]
 by_cases hz:h≠0
 ·refine Dm (td q3.1 hu1 (be (hs s h))) fun r1 r2 r3 _=>?_
  refine .inr ⟨bk e N' Xz,_,_,_,BL.trans (by rw[decide_eq_true hz]),qu (Ez q3.1 (g9 hl' (by decide)) hu1 hu2) (by rw[tP,Qs];exact g9 (So XQ) (by decide)),(dH N' (be (hs s h)) s u).2,ts++[(dH N' (be (hs s h)) s u).1],⟨_,_,rfl⟩,rfl,⟨r1,q3.2.trans r2⟩,g9 r3 (Sd q4 2),by simp[tP],?_⟩
  rw[ap,show([(u,h)].filter fun x:Nat×Int=>decide (x.2≠0)).map (fun x=>(x.1,hs s x.2))=[(u,hs s h)] by simp[hz]]
  exact(q6.ext r2).snoc (Aq q3.1 hu1)
 ·refine .inl ⟨bk e N' Xz,BL.trans (by rw[decide_eq_false hz]),N',ts,⟨_,_,rfl⟩,rfl,q3,g9 q4 (VK (Ri _ 2) _),rfl,?_⟩
  rw[ap,show([(u,h)].filter fun x:Nat×Int=>decide (x.2≠0)).map (fun x=>(x.1,hs s x.2))=[] by simp[V9.mp hz],SX]
  exact q6
theorem II(o:OK s N)(hl:N.length≤850)(hr:Xz[0]?=some (AO.list [pI 4,pI 5,pI 7]))(ha:In 20 a)(hb:In 20 b)(hc:In 20 c):
  ∃ N' ts,dN 4 (lU (ac (aa 1) (ac (aa 3) af))) 2 [0,2] (eG [0,1]) BK (cq Hj) (ui s a b c k none) (bk e N Xz)=some (.next,ui s a b c k (some (.dat (.list (tI ts)))),bk e N' Xz)∧OK s N'∧N <+: N'∧N'.length≤N.length+6∧Ms N' s ts (lD s a b c)∧ts.length≤3:=by
 revert e N Xz s a b c k
 refine @mG _ _ _ _ _ _ _ _ _ nI ?_
 generalize q1 _=e,q2 _=N,q3 _=Xz,q4 _=s,q5 _=a,q6 _=b,q7 _=c,qe _=k
 intro o hl hr ha hb hc
 have hr':∀ N:List Nd,(bk e N Xz)[11]?=some (AO.list [pI 4,pI 5,pI 7]):=fun _=>hr
 have hcur:∀ (N:List Nd) (j:Nat),j<3→iG (.ref 11) (.dat (.list [.int a,.int b,.int c,.int k])) (bk e N Xz) j=some (some (.dat (.tuple [.int (((uL a b c)[j]?.getD (0,0)).1:Nat),.int ((uL a b c)[j]?.getD (0,0)).2]))):=fun N j hj=>by
  unfold iG rj
  dsimp only
  rw[hr' N]
  rcases NX hj with rfl | rfl | rfl<;>rfl
 obtain⟨Yg,XN,XK,h1,N',ts,q1,q2,q3,q4,q5,q6⟩:=mj (XR:=iG (.ref 11) (.dat (.list [.int a,.int b,.int c,.int k]))) (g:=eG [0,1]) (t:=BK) (F:=cq Hj) (n:=3)
  (fun j=>.dat (.tuple [.int (((uL a b c)[j]?.getD (0,0)).1:Nat),.int ((uL a b c)[j]?.getD (0,0)).2])) (SI e N Xz s a b c)
  (fun j ρ acc Xx hj z=>mH z fun N' _ _ q2 _=>q2▸hcur N' j hj)
  (fun ρ acc Xx z=>mH z fun N' _ _ q2 _=>by
   rw[q2]
   unfold iG rj
   dsimp only
   rw[hr' N']
   rfl)
  (fun j ρ acc Xx hj q=>IH hl ha hb hc hj q)
  3 0 [none,none,some (.ref 1),some (pI s)] [] (bk e N Xz) rfl ⟨N,[],⟨none,none,rfl⟩,rfl,⟨o,Rj _⟩,QZ _,rfl,.nil⟩
 have q6:Ms N' s ts (lD s a b c):=q6
 have htl:ts.length≤3:=by
  rw[q6.len]
  unfold lD
  rw[Qs]
  exact Q6 _ (uL a b c)
 subst q2 q5
 refine⟨N',ts,?_,q3.1,q3.2,q4,q6,htl⟩
 unfold dN
 have z:lU (ac (aa 1) (ac (aa 3) af)) (ui s a b c k none) (bk e N Xz)=some (iG (.ref 11) (.dat (.list [.int a,.int b,.int c,.int k])),3,bk e N Xz):=by
  show(oK (bk e N Xz) (.ref 11)).bind _=_
  unfold oK
  dsimp only
  rw[hr' N]
  rfl
 rw[z]
 dsimp only[p3,QQ]
 rw[show ib 2 [0,2] (ui s a b c k none)=[none,none,some (.ref 1),some (pI s)] from rfl,h1]
 dsimp only
 rw[show gM (tP ts)=some (tI ts) by
  have:=kH (tI ts)
  rw[Ra] at this
  exact this]
 dsimp only
 rw[if_pos (by unfold small;rw[tI,Qs];exact decide_eq_true (g9 htl (by decide)))]
 rfl
theorem LO{a b c k:Int}(o:OK s N)(hl:N.length≤900)(hk:In 20 k)(htl:ts.length≤3):LM (ui s a b c k (some (.dat (.list (tI ts))))) (bk e N Xz)=some (.dat (.tuple (tI (ts++[(aU N (aM (be (hs s k)) s)).1]))),bk e (aU N (aM (be (hs s k)) s)).2 Xz):=by
 have hsm:Sm (be (hs s k)):=Bd.sm (by have:=C5 (s:=s) hk;unfold In at this;unfold Bd;clear hl htl;lia)
 have nv:=yk (e:=e) (N:=N) (Xz:=Xz) (x:=be (hs s k)) (s:=s) (g9 (by decide) o.len) (g9 hl (by decide)) hsm o.so (fun q=>by unfold hs;rw[if_pos q,kJ])
 have m1:Hk (ui s a b c k (some (.dat (.list (tI ts))))) (bk e N Xz)=_ :=
  (bn (i:=1) (ps:=[.dat (Dh (hs s k)),pI s]) (XA:=bk e N Xz) rfl rfl (cC ((bO (ps:=[pI s,pI k]) rfl).trans (mq o.so)) rfl)).trans nv
 generalize (aU N (aM (be (hs s k)) s)).2=M at *
 generalize (aU N (aM (be (hs s k)) s)).1=m at *
 have l1:dT (ac Hk af) (ui s a b c k (some (.dat (.list (tI ts))))) (bk e N Xz)=some (.dat (.list [.int (m:Nat)]),bk e M Xz):=by
  unfold dT
  rw[cP m1]
  rfl
 have c1:yN (aa 4) (dT (ac Hk af)) (ui s a b c k (some (.dat (.list (tI ts))))) (bk e N Xz)=some (.dat (.list (tI (ts++[m]))),bk e M Xz):=by
  unfold yN
  rw[show aa 4 (ui s a b c k (some (.dat (.list (tI ts))))) (bk e N Xz)=some (.dat (.list (tI ts)),bk e N Xz) from rfl]
  dsimp only[pP,dh,xd,QQ]
  rw[l1]
  dsimp only
  rw[if_pos (by simp[small];exact nA)]
  simp[tI]
 unfold LM gd
 rw[cP c1]
 dsimp only[pP,dh,pD,QQ]
 rw[if_pos (by simp[small];exact nA)]
theorem IJ(s a b c k:Int):((lD s a b c++[(0,hs s k)]).map fun x:Nat×Int=>x.1).Nodup:=by
 have h0:((lD s a b c).map fun x:Nat×Int=>x.1).Sublist [4,5,7]:=by
  unfold lD
  rw[Ra]
  exact(RY (l:=(uL a b c))).map Vy
 rw[RZ,RK]
 refine⟨Sr h0 (by decide),by simp,fun x hx y hy=>?_⟩
 have:=h0.subset hx
 simp at this hy
 lia
theorem IK(ha:In 20 a)(hb:In 20 b)(hc:In 20 c)(hk:In 20 k):∀ x∈lD s a b c++[(0,hs s k)],In 1000 x.2:=fun x hx=>by
 have h40:∀ h,In 20 h→In 1000 (hs s h):=fun h q=>by have:=C5 (s:=s) q;unfold In at *;exact zA
 rcases Qw.mp hx with h | h
 ·refine aH (QL.mp h) fun y hy XX=>?_
  subst XX
  have:=(RH.mp hy).1
  simp at this
  rcases this with rfl | rfl | rfl
  ·exact h40 _ ha
  ·exact h40 _ hb
  ·exact h40 _ hc
 ·rw[Qu] at h
  subst h
  exact h40 _ hk
theorem EB{A:List Nat}(o:OK s N)(hl:N.length≤900)(h0:A≠[])(h4:A.length≤4)(hs':zI N s A):oU [.ref 1,.dat (.tuple (tI A))] (bk e N Xz)=some (pI ((f0 N A s).1:Nat),bk e (f0 N A s).2 Xz):=by
 cases A with
 | nil=>exact absurd rfl h0
 | cons t r=>exact Ed (g9 (by decide) o.len) (g9 hl (by decide)) hs' (g9 (SV h4) (by decide)) o.so
theorem EC{a b c k:Int}(o:OK s N)(hl:N.length≤850)(hr:Xz[0]?=some (AO.list [pI 4,pI 5,pI 7]))(ha:In 20 a)(hb:In 20 b)(hc:In 20 c)(hk:In 20 k):
  ∃ N' t ts n,gD [.ref 1,.ref 11,pI s,.dat (.list [.int a,.int b,.int c,.int k])] (bk e N Xz)=some (pI (t:Nat),bk e N' Xz)∧OK s N'∧N <+: N'∧N'.length≤N.length+8∧N'[t]?=some n∧n.sort=s∧TS N' s t ts ∧
   ∀ y,df N' ts y=((lD s a b c++[(0,hs s k)]).map fun x:Nat×Int=>if x.1=y then x.2 else 0).sum:=by
 revert e N Xz s a b c k
 refine @mG _ _ _ _ _ _ _ _ _ nI ?_
 generalize q1 _=e,q2 _=N,q3 _=Xz,q4 _=s,q5 _=a,q6 _=b,q7 _=c,qe _=k
 intro o hl hr ha hb hc hk
 refine Pr (II (e:=e) (k:=k) o hl hr ha hb hc) fun N' ts s1 o1 p1 l1 q6 htl=>?_
 have l1':N'.length≤856:=g9 l1 (Sd hl 6)
 have cat:=LO (e:=e) (Xz:=Xz) (a:=a) (b:=b) (c:=c) (ts:=ts) o1 (g9 l1' (by decide)) hk htl
 have at1:=(dU (N:=N') (n:=aM (be (hs s k)) s) (g9 (by decide) o1.len)).1
 have ln:=(fB N' (aM (be (hs s k)) s)).2
 have pr:=db N' (aM (be (hs s k)) s)
 have oM:=o1.add (aM (be (hs s k)) s)
 generalize (aU N' (aM (be (hs s k)) s)).2=M at *
 generalize (aU N' (aM (be (hs s k)) s)).1=m at *
 have ms:Ms M s (ts++[m]) (lD s a b c++[(0,hs s k)]):=(q6.ext pr).snoc (.num at1)
 have srt:zI M s (ts++[m]):=fun t ht=>by
  refine aH (ms.mem t ht) fun x _ q=>?_
  exact IG oM q
 have hA4:(ts++[m]).length≤4:=by rw[RR];exact So htl
 have lM:M.length≤857:=g9 ln (So l1')
 have rr:gD [.ref 1,.ref 11,pI s,.dat (.list [.int a,.int b,.int c,.int k])] (bk e N Xz)=some (pI ((f0 M (ts++[m]) s).1:Nat),bk e (f0 M (ts++[m]) s).2 Xz):=by
  show aY (rD (ui s a b c k none) (bk e N Xz))=_
  rw[EA,aS s1,bx (cp ((bn (i:=1) (ps:=[.dat (.tuple (tI (ts++[m])))]) (XA:=bk e M Xz) rfl rfl (cP cat)).trans (EB oM (g9 lM (by decide)) (by simp) hA4 srt)))]
  rfl
 have hl4:=ms.len▸hA4
 have nd:=IJ s a b c k
 have hbs:=IK (s:=s) ha hb hc hk
 cases ts with
 | nil =>
  refine aH (srt m (.head _)) fun n n1 n2=>?_
  exact⟨M,m,[m],n,rr,oM,p1.trans pr,g9 ln (g9 (So l1) (TR _)),n1,n2,ms.ts oM nd hl4 hbs (.inl rfl),fun y=>ms.sum oM y⟩
 | cons t r =>
  generalize hA:t::r++[m]=A at *
  have hpn:f0 M A s=aU M (dz A s):=by
   rw[← hA]
   cases r<;>rfl
  rw[hpn] at rr
  have a2:=dU (N:=M) (n:=dz A s) (g9 (by decide) oM.len)
  have l2:=(fB M (dz A s)).2
  have p2:=db M (dz A s)
  have o2:=oM.add (dz A s)
  exact⟨_,_,A,dz A s,rr,o2,(p1.trans pr).trans p2,g9 l2 (So (g9 ln (So l1))),a2.1,rfl,(ms.ext p2).ts o2 nd hl4 hbs (.inr a2.1),fun y=>(ms.ext p2).sum o2 y⟩
end
section
variable {e:En} {N:List Nd} {R:List AO} {w k t:Nat} {n:Nd} {D:List (Int×PV)}
noncomputable def Wv(e:En)(N:List Nd)(R:List AO)(w k t:Nat)(v:QC):Prop:=b8 k [.ref 1,pI (t:Nat),.ref w] (bk e N R)=some (.dat v,bk e N R)
noncomputable abbrev wR(t w:Nat)(op:Str)(kids:QC)(l:Sl):Sl:=some (.ref 1)::some (pI (t:Nat))::some (.ref w)::some (.dat (.str op))::some (.dat kids)::l
noncomputable abbrev lE(n:Nd):QC:=.tuple (n.args.map .int)
theorem OF(ha:Qv (.str a)=true)(hb:Qv (.str b)=true)(hc:Qv (.str c)=true):iF (.str a) (.tuple [.str b,.str c])=some (.bool (b==a||c==a)):=by
 unfold iF xr
 dsimp only
 rw[if_pos]
 ·simp[Rg]
 ·refine⟨by simp[Rn,hb,hc],ha,?_⟩
  simp[RO,Rs]
theorem ED(h:ρ[i]?=some (some (.dat (.str a))))(ha:Qv (.str a)=true)(hb:Qv (.str b)=true)(hc:Qv (.str c)=true):ao (am iF (aa i) (bp (ac (ae (.str b)) (ac (ae (.str c)) af)))) ρ Xx=some (b==a||c==a,Xx) :=
 bB (aV (a:=.str a) (b:=.tuple [.str b,.str c]) (by unfold aa;rw[h]) rfl (OF ha hb hc))
noncomputable abbrev wB(W:PF):SF:=(ah (bJ (ao (am bS (aa 3) (ae (.str "num")))) (ah (aW (aC 688 kc (aa 0) (ac (aa 1) af))) az) az) (ah (bJ (ao (am bS (aa 3) (ae (.str "app")))) (ah (aW (aq (aa 2) (aa 1))) az) az) (ah (bJ (ao (am bS (aa 3) (ae (.str "ite")))) (ah (aW (aI W (ac (aa 0) (ac (eV (ao (aI W (ac (aa 0) (ac (aq (aa 4) (ae (.int 0))) (ac (aa 2) af))))) (aq (aa 4) (ae (.int 1))) (aq (aa 4) (ae (.int 2)))) (ac (aa 2) af))))) az) az) (ah (dN 5 (cF (aa 4)) 1 [0,2] (bZ 0) dn (cq (aI W (ac (aa 1) (ac (aa 0) (ac (aa 2) af)))))) (ah (bJ (ao (am bS (aa 3) (ae (.str "not")))) (ah (aW (sn (aq (aa 5) (ae (.int 0))))) az) az) (ah (bJ (ao (am iF (aa 3) (bp (ac (ae (.str "and")) (ac (ae (.str "or")) af))))) (ah (aW (eV (ao (am bS (aa 3) (ae (.str "and")))) (am lg (ae (.bool false)) (aa 5)) (am iF (ae (.bool true)) (aa 5)))) az) az) (ah (bJ (ao (am bS (aa 3) (ae (.str "=")))) (ah (aW (eV (qE (aq (aa 5) (ae (.int 0)))) (am bS (aq (aa 5) (ae (.int 0))) (aq (aa 5) (ae (.int 1)))) (am (aP fun a b=>a==b) (am bR (aq (aq (aa 5) (ae (.int 0))) (ae (.int 0))) (aq (aq (aa 5) (ae (.int 1))) (ae (.int 1)))) (am bR (aq (aq (aa 5) (ae (.int 1))) (ae (.int 0))) (aq (aq (aa 5) (ae (.int 0))) (ae (.int 1))))))) az) az) (ah (bQ 6 (aq (aa 5) (ae (.int 0)))) (ah (dM (cF (vw 1 (aa 5))) (bZ 7) (ah (bQ 6 (eV (ao (am bS (aa 3) (ae (.str "*")))) (aI eX (ac (aa 6) (ac (aa 7) af))) (aI fz (ac (aa 6) (ac (aa 7) af))))) az)) (ah (aW (aa 6)) az))))))))))
noncomputable abbrev wA(W:PF):SF:=ah (bJ (ao (am iF (aa 3) (bp (ac (ae (.str "true")) (ac (ae (.str "false")) af))))) (ah (aW (am bS (aa 3) (ae (.str "true")))) az) az) (wB W)
theorem ni(h2:N.length≤1000)(ht:N[t]?=some n):gH W [some (.ref 1),some (pI (t:Nat)),some (.ref w),none,none,none,none,none] (bk e N R)=wA W (wR t w n.op (lE n) [none,none,none]) (bk e N R):=by
 have t1:=ph (is:=[4,3]) (ρ:=[some (.ref 1),some (pI (t:Nat)),some (.ref w),none,none,none,none,none]) (Yg:=wR t w n.op (lE n) [none,none,none]) (cC ((bn (i:=1) (f:=aa 0) (G:=ac (aa 1) af) (C:=688) (ps:=[pI (t:Nat)]) (Xx:=bk e N R) (XA:=bk e N R) rfl rfl rfl).trans (uO h2 ht)) (cP ((bn (i:=1) (f:=aa 0) (G:=ac (aa 1) af) (C:=688) (ps:=[pI (t:Nat)]) (XA:=bk e N R) rfl rfl rfl).trans (zy h2 ht)))) rfl rfl
 show ah (fG [4,3] _) _ _ _=_
 rw[aS t1]
theorem EE(h2:N.length≤1000)(ht:N[t]?=some n)(ho:n.op=if b then("true":Str) else("false":Str)):Wv e N R w (k+1) t (.bool b):=by
 have lay:Qv (.str n.op)=true:=by rw[ho];cases b<;>first | exact po | exact pZ
 show aY (gH (b8 k) [some (.ref 1),some (pI (t:Nat)),some (.ref w),none,none,none,none,none] (bk e N R))=_
 rw[ni h2 ht]
 have t1:=ED (i:=3) (ρ:=wR t w n.op (lE n) [none,none,none]) (Xx:=bk e N R) rfl lay po pZ
 have v:am bS (aa 3) (ae (.str "true")) (wR t w n.op (lE n) [none,none,none]) (bk e N R)=some (.dat (.bool b),bk e N R) :=
  aV (a:=.str n.op) (b:=.str "true") rfl rfl (by rw[gQ lay po,ho];cases b<;>rfl)
 rw[show((("true":Str)==n.op)||(("false":Str)==n.op))=true from by rw[ho];cases b<;>rfl] at t1
 unfold wA
 rw[bx ((eJ t1).trans (bx (cp v)))]
 rfl
theorem vW(lay:Qv (.str op)=true)(h1:op≠("true":Str))(h2:op≠("false":Str)):wA W (wR t w op kids l) Xx=wB W (wR t w op kids l) Xx:=by
 have t1:=ED (i:=3) (ρ:=wR t w op kids l) (Xx:=Xx) rfl lay po pZ
 rw[show((("true":Str)==op)||(("false":Str)==op))=false from by simp[Tc h1,Tc h2]] at t1
 unfold wA
 rw[aS (cr t1)]
theorem yo(h2:N.length≤1000)(ht:N[t]?=some (aM x s)):Wv e N R w (k+1) t (Qp x):=by
 show aY (gH (b8 k) [some (.ref 1),some (pI (t:Nat)),some (.ref w),none,none,none,none,none] (bk e N R))=_
 rw[ni h2 ht,show(aM x s).op=("num":Str) from rfl,vW fP (by decide) (by decide)]
 have t1:=gR (i:=3) (a:="num") (b:="num") (ρ:=wR t w "num" (lE (aM x s)) [none,none,none]) (Xx:=bk e N R) rfl fP fP
 unfold wB
 rw[bx ((eJ t1).trans (bx (cp ((bn (i:=1) (ps:=[pI (t:Nat)]) (XA:=bk e N R) rfl rfl rfl).trans (zz h2 ht)))))]
 rfl
theorem vX(h2:N.length≤1000)(ht:N[t]?=some n)(ho:n.op=("app":Str))(hD:(bk e N R)[w]?=some (AO.idict D))(hd:gu D (t:Nat)=some (.dat d)):Wv e N R w (k+1) t d:=by
 have hlt:=zw ht
 show aY (gH (b8 k) [some (.ref 1),some (pI (t:Nat)),some (.ref w),none,none,none,none,none] (bk e N R))=_
 rw[ni h2 ht,ho,vW fQ (by decide) (by decide)]
 have t1:=gR (i:=3) (a:="app") (b:="num") (ρ:=wR t w "app" (lE n) [none,none,none]) (Xx:=bk e N R) rfl fQ fP
 have t2:=gR (i:=3) (a:="app") (b:="app") (ρ:=wR t w "app" (lE n) [none,none,none]) (Xx:=bk e N R) rfl fQ fQ
 have v:aq (aa 2) (aa 1) (wR t w "app" (lE n) [none,none,none]) (bk e N R)=some (.dat d,bk e N R):=by
  refine gW (p:=.ref w) (k:=(t:Nat)) rfl rfl ?_
  unfold iW
  rw[if_pos (by lia)]
  dsimp only[pD]
  rw[hD]
  exact hd
 unfold wB
 rw[aS (cr t1),bx ((eJ t2).trans (bx (cp v)))]
 rfl
theorem Ng{c a b:Nat}(h2:N.length≤1000)(ht:N[t]?=some ⟨"ite",[(c:Int),(a:Int),(b:Int)],s,.inl 0⟩)(hc:Wv e N R w k c (.bool p))(hv:Wv e N R w k (if p then a else b) v):Wv e N R w (k+1) t v:=by
 show aY (gH (b8 k) [some (.ref 1),some (pI (t:Nat)),some (.ref w),none,none,none,none,none] (bk e N R))=_
 rw[ni h2 ht]
 rw[vW gl (by decide) (by decide)]
 have kd:lE ⟨"ite",[(c:Int),(a:Int),(b:Int)],s,.inl 0⟩=.tuple [.int c,.int a,.int b]:=rfl
 rw[kd]
 have t1:=gR (i:=3) (a:="ite") (b:="num") (ρ:=wR t w "ite" (.tuple [.int c,.int a,.int b]) [none,none,none]) (Xx:=bk e N R) rfl gl fP
 have t2:=gR (i:=3) (a:="ite") (b:="app") (ρ:=wR t w "ite" (.tuple [.int c,.int a,.int b]) [none,none,none]) (Xx:=bk e N R) rfl gl fQ
 have t3:=gR (i:=3) (a:="ite") (b:="ite") (ρ:=wR t w "ite" (.tuple [.int c,.int a,.int b]) [none,none,none]) (Xx:=bk e N R) rfl gl gl
 have c1:ao (aI (b8 k) (ac (aa 0) (ac (aq (aa 4) (ae (.int 0))) (ac (aa 2) af)))) (wR t w "ite" (.tuple [.int c,.int a,.int b]) [none,none,none]) (bk e N R)=some (p,bk e N R):=bB ((bO (ps:=[.ref 1,pI (c:Nat),.ref w]) rfl).trans hc)
 have c2:eV (ao (aI (b8 k) (ac (aa 0) (ac (aq (aa 4) (ae (.int 0))) (ac (aa 2) af))))) (aq (aa 4) (ae (.int 1))) (aq (aa 4) (ae (.int 2))) (wR t w "ite" (.tuple [.int c,.int a,.int b]) [none,none,none]) (bk e N R)=some (pI ((if p then a else b:Nat):Int),bk e N R):=by
  cases p with
  | true=>exact(ml c1).trans rfl
  | false=>exact(j4 c1).trans rfl
 unfold wB
 rw[aS (cr t1),aS (cr t2),bx ((eJ t3).trans (bx (cp ((bO (cC rfl (cC c2 rfl))).trans hv))))]
 rfl
end
theorem uj (I:Sl→Prop) (f:QC→QC) (hs:src ρ Xx=some (cA xs,xs.length,Xx)) (hI:I (ib nl fr ρ))
  (h:∀ x∈xs,∀ ρ,I ρ→∃ X6,g (.dat x) ρ=some X6∧I X6∧F X6 Xx=some (.dat (f x),Xx)) (hl:xs.length≤1000):dN i src nl fr g dn (cq F) ρ Xx=some (.next,ρ.set i (some (.dat (.list (xs.map f)))),Xx):=by
 refine bM (xB I f h hl hI) fun Yg h1=>?_
 unfold dN
 rw[hs]
 dsimp only[p3,QQ]
 rw[h1]
 dsimp only
 rw[kH]
 dsimp only
 rw[if_pos (by simp[small];exact nA)]
noncomputable def tQ(x y:Int×Int):Int×Int:=(x.1*y.1,x.2*y.2)
noncomputable def pQ(x y:Int×Int):Int×Int:=(x.1*y.2+y.1*x.2,x.2*y.2)
theorem Ar(hx:Sm x)(hy:Sm y):eX [.dat (Qp x),.dat (Qp y)] Xx=some (.dat (Qp (tQ x y)),Xx):=by
 show aY (ql [some (.dat (Qp x)),some (.dat (Qp y))] Xx)=_
 unfold ql
 have e1:am bR (aq (aa 0) (ae (.int 0))) (aq (aa 1) (ae (.int 0))) [some (.dat (Qp x)),some (.dat (Qp y))] Xx=some (pI (x.1*y.1),Xx) :=
  aV (a:=.int x.1) (b:=.int y.1) rfl rfl (dP (by have:=hx.top;exact zs) (by have:=hx.top;exact zt))
 have e2:am bR (aq (aa 0) (ae (.int 1))) (aq (aa 1) (ae (.int 1))) [some (.dat (Qp x)),some (.dat (Qp y))] Xx=some (pI (x.2*y.2),Xx) :=
  aV (a:=.int x.2) (b:=.int y.2) rfl rfl (dP (by have:=hx.bot;exact zs) (by have:=hx.bot;exact zt))
 have e3:bp (ac (am bR (aq (aa 0) (ae (.int 0))) (aq (aa 1) (ae (.int 0)))) (ac (am bR (aq (aa 0) (ae (.int 1))) (aq (aa 1) (ae (.int 1)))) af)) [some (.dat (Qp x)),some (.dat (Qp y))] Xx=some (.dat (Qp (tQ x y)),Xx):=by
  unfold bp
  rw[cC e1 (cP e2)]
  rfl
 rw[bx (cp e3)]
 rfl
theorem BM(hx:Sm x)(hy:Sm y):fz [.dat (Qp x),.dat (Qp y)] Xx=some (.dat (Qp (pQ x y)),Xx):=by
 show aY (rE [some (.dat (Qp x)),some (.dat (Qp y))] Xx)=_
 unfold rE
 have a1:am bR (aq (aa 0) (ae (.int 0))) (aq (aa 1) (ae (.int 1))) [some (.dat (Qp x)),some (.dat (Qp y))] Xx=some (pI (x.1*y.2),Xx) :=
  aV (a:=.int x.1) (b:=.int y.2) rfl rfl (dP (by have:=hx.top;lia) (by have:=hx.top;lia))
 have a2:am bR (aq (aa 1) (ae (.int 0))) (aq (aa 0) (ae (.int 1))) [some (.dat (Qp x)),some (.dat (Qp y))] Xx=some (pI (y.1*x.2),Xx) :=
  aV (a:=.int y.1) (b:=.int x.2) rfl rfl (dP (by have:=hy.top;lia) (by have:=hy.top;lia))
 have e2:am bR (aq (aa 0) (ae (.int 1))) (aq (aa 1) (ae (.int 1))) [some (.dat (Qp x)),some (.dat (Qp y))] Xx=some (pI (x.2*y.2),Xx) :=
  aV (a:=.int x.2) (b:=.int y.2) rfl rfl (dP (by have:=hx.bot;lia) (by have:=hx.bot;lia))
 have e3:bp (ac (am iq (am bR (aq (aa 0) (ae (.int 0))) (aq (aa 1) (ae (.int 1)))) (am bR (aq (aa 1) (ae (.int 0))) (aq (aa 0) (ae (.int 1))))) (ac (am bR (aq (aa 0) (ae (.int 1))) (aq (aa 1) (ae (.int 1)))) af)) [some (.dat (Qp x)),some (.dat (Qp y))] Xx=some (.dat (Qp (pQ x y)),Xx):=by
  unfold bp
  rw[cC (aV a1 a2 rfl) (cP e2)]
  rfl
 rw[bx (cp e3)]
 rfl
section
variable {e:En} {N:List Nd} {R:List AO} {w k t:Nat} {n:Nd} {D:List (Int×PV)} {op:Str} {ts:List Nat} {dt:Sum Int (List Int)} {so:Int}
noncomputable abbrev C6(ts:List Nat):List Int:=ts.map fun t:Nat=>(t:Int)
noncomputable abbrev wF(W:PF):SF:=(ah (bQ 6 (aq (aa 5) (ae (.int 0)))) (ah (dM (cF (vw 1 (aa 5))) (bZ 7) (ah (bQ 6 (eV (ao (am bS (aa 3) (ae (.str "*")))) (aI eX (ac (aa 6) (ac (aa 7) af))) (aI fz (ac (aa 6) (ac (aa 7) af))))) az)) (ah (aW (aa 6)) az)))
noncomputable abbrev wE(W:PF):SF:=ah (bJ (ao (am bS (aa 3) (ae (.str "=")))) (ah (aW (eV (qE (aq (aa 5) (ae (.int 0)))) (am bS (aq (aa 5) (ae (.int 0))) (aq (aa 5) (ae (.int 1)))) (am (aP fun a b=>a==b) (am bR (aq (aq (aa 5) (ae (.int 0))) (ae (.int 0))) (aq (aq (aa 5) (ae (.int 1))) (ae (.int 1)))) (am bR (aq (aq (aa 5) (ae (.int 1))) (ae (.int 0))) (aq (aq (aa 5) (ae (.int 0))) (ae (.int 1))))))) az) az) (wF W)
noncomputable abbrev wD(W:PF):SF:=ah (bJ (ao (am iF (aa 3) (bp (ac (ae (.str "and")) (ac (ae (.str "or")) af))))) (ah (aW (eV (ao (am bS (aa 3) (ae (.str "and")))) (am lg (ae (.bool false)) (aa 5)) (am iF (ae (.bool true)) (aa 5)))) az) az) (wE W)
noncomputable abbrev wC(W:PF):SF:=ah (bJ (ao (am bS (aa 3) (ae (.str "not")))) (ah (aW (sn (aq (aa 5) (ae (.int 0))))) az) az) (wD W)
theorem vY (f:Nat→QC) (h2:N.length≤1000) (ht:N[t]?=some ⟨op,C6 ts,so,dt⟩) (lay:Qv (.str op)=true) (o1:op≠("true":Str)) (o2:op≠("false":Str)) (o3:op≠("num":Str)) (o4:op≠("app":Str)) (o5:op≠("ite":Str)) (hl:ts.length≤100)
  (hk:∀ x∈ts,Wv e N R w k x (f x)):b8 (k+1) [.ref 1,pI (t:Nat),.ref w] (bk e N R)=aY (wC (b8 k) (wR t w op (.tuple (tI ts)) [some (.dat (.list (ts.map f))),none,none]) (bk e N R)):=by
 show aY (gH (b8 k) [some (.ref 1),some (pI (t:Nat)),some (.ref w),none,none,none,none,none] (bk e N R))=_
 rw[ni h2 ht]
 rw[vW lay o1 o2]
 have ea:lE ⟨op,C6 ts,so,dt⟩=.tuple (tI ts):=by simp[lE,C6,tI]
 rw[ea]
 unfold wB
 have tf:∀ {b:Str},Qv (.str b)=true→op≠b→ao (am bS (aa 3) (ae (.str b))) (wR t w op (.tuple (tI ts)) [none,none,none]) (bk e N R)=some (false,bk e N R):=fun {b} hb XU=>by
  rw[gR (i:=3) (a:=op) (b:=b) rfl lay hb]
  congr 2
  simpa using XU
 rw[aS (cr (tf fP o3)),aS (cr (tf fQ o4)),aS (cr (tf gl o5))]
 have sc:=uj (i:=5) (nl:=1) (fr:=[0,2]) (g:=bZ 0) (F:=aI (b8 k) (ac (aa 1) (ac (aa 0) (ac (aa 2) af)))) (ρ:=wR t w op (.tuple (tI ts)) [none,none,none]) (Xx:=bk e N R) (xs:=tI ts) (fun ρ=>∃ o,ρ=[o,some (.ref 1),some (.ref w)]) (z9 fun i=>f i.toNat) (gB (f:=aa 4) (.inr rfl) (by simp;exact nA)) ⟨none,rfl⟩ (fun x hx ρ z=>bM z fun o q=>by
   refine aH (QL.mp hx) fun y hy XX=>?_
   subst XX
   subst q
   exact⟨_,rfl,⟨_,rfl⟩,(bO (ps:=[.ref 1,pI (y:Nat),.ref w]) rfl).trans (hk y hy)⟩) (by simp;exact nA)
 have em:(tI ts).map (z9 fun i=>f i.toNat)=ts.map f:=by
  rw[tI,Ra]
  rfl
 rw[em] at sc
 rw[aS sc]
 rfl
theorem Ni(h2:N.length≤1000)(ht:N[t]?=some (bz a))(hp:Wv e N R w k a (.bool p)):Wv e N R w (k+1) t (.bool (!p)):=by
 show b8 (k+1) [.ref 1,pI (t:Nat),.ref w] (bk e N R)=_
 rw[vY (op:="not") (ts:=[a]) (so:=0) (dt:=.inl 0) (fun _=>.bool p) h2 ht hZ (by decide) (by decide) (by decide) (by decide) (by decide) (by simp) (fun x hx=>by rw[Qu] at hx;subst hx;exact hp)]
 unfold wC
 have t1:=gR (i:=3) (a:="not") (b:="not") (ρ:=wR t w "not" (.tuple (tI [a])) [some (.dat (.list [.bool p])),none,none]) (Xx:=bk e N R) rfl hZ hZ
 rw[show[a].map (fun _=>QT p)=[.bool p] from rfl,bx ((eJ t1).trans (bx (cp rfl)))]
 rfl
theorem LQ(p q:Bool):iF (.bool true) (.list [.bool p,.bool q])=some (.bool (p||q))∧lg (.bool false) (.list [.bool p,.bool q])=some (.bool (p&&q)):=by
 constructor
 ·unfold iF xr
  dsimp only
  rw[if_pos (by cases p<;>cases q<;>decide)]
  cases p<;>cases q<;>rfl
 ·unfold lg xr
  dsimp only
  rw[if_pos (by cases p<;>cases q<;>decide)]
  cases p<;>cases q<;>rfl
theorem Hl(f:Nat→Bool)(h2:N.length≤1000)(ho:op=("and":Str)∨op=("or":Str))(ht:N[t]?=some (dS op a b))(ha:Wv e N R w k a (.bool (f a)))(hb:Wv e N R w k b (.bool (f b))):Wv e N R w (k+1) t (.bool (if op=("and":Str) then f a&&f b else f a||f b)):=by
 revert e N R w k t op a b f
 refine @si _ _ _ _ _ _ _ _ _ _ _ nI ?_
 generalize q1 _=e,q2 _=N,q3 _=R,q4 _=w,q5 _=k,q6 _=t,q7 _=op,q8 _=a,q9 _=b,qe _=f
 intro h2 ho ht ha hb
 have lay:Qv (.str op)=true:=by rcases ho with rfl | rfl<;>first | exact iK | exact pf
 show b8 (k+1) [.ref 1,pI (t:Nat),.ref w] (bk e N R)=_
 have hk:∀ x∈[min a b,max a b],Wv e N R w k x (.bool (f x)):=fun x hx=>by
  have h:x=a∨x=b:=by simp at hx;lia
  rcases h with rfl | rfl
  ·exact ha
  ·exact hb
 rw[vY (op:=op) (ts:=[min a b,max a b]) (so:=0) (dt:=.inl 0) (fun x=>.bool (f x)) h2 ht lay (by rcases ho with rfl | rfl<;>decide) (by rcases ho with rfl | rfl<;>decide) (by rcases ho with rfl | rfl<;>decide) (by rcases ho with rfl | rfl<;>decide) (by rcases ho with rfl | rfl<;>decide) (by simp) hk]
 unfold wC
 have t1:=gR (i:=3) (a:=op) (b:="not") (ρ:=wR t w op (.tuple (tI [min a b,max a b])) [some (.dat (.list [.bool (f (min a b)),.bool (f (max a b))])),none,none]) (Xx:=bk e N R) rfl lay hZ
 rw[show(op==("not":Str))=false from by rcases ho with rfl | rfl<;>decide] at t1
 have t2:=ED (i:=3) (a:=op) (b:="and") (c:="or") (ρ:=wR t w op (.tuple (tI [min a b,max a b])) [some (.dat (.list [.bool (f (min a b)),.bool (f (max a b))])),none,none]) (Xx:=bk e N R) rfl lay iK pf
 rw[show((("and":Str)==op)||(("or":Str)==op))=true from by rcases ho with rfl | rfl<;>decide] at t2
 have t3:=gR (i:=3) (a:=op) (b:="and") (ρ:=wR t w op (.tuple (tI [min a b,max a b])) [some (.dat (.list [.bool (f (min a b)),.bool (f (max a b))])),none,none]) (Xx:=bk e N R) rfl lay iK
 have mm:(f (min a b)&&f (max a b))=(f a&&f b)∧(f (min a b)||f (max a b))=(f a||f b):=by
  by_cases h:a≤b
  ·rw[T5 h,TL h];exact⟨rfl,rfl⟩
  ·rw[TM (by lia),T6 (by lia)];exact⟨Bool.and_comm ..,Bool.or_comm ..⟩
 have v:eV (ao (am bS (aa 3) (ae (.str "and")))) (am lg (ae (.bool false)) (aa 5)) (am iF (ae (.bool true)) (aa 5)) (wR t w op (.tuple (tI [min a b,max a b])) [some (.dat (.list [.bool (f (min a b)),.bool (f (max a b))])),none,none]) (bk e N R)=some (.dat (.bool (if op=("and":Str) then f a&&f b else f a||f b)),bk e N R):=by
  rcases ho with rfl | rfl
  ·rw[if_pos rfl,← mm.1]
   exact(ml t3).trans (aV rfl rfl (LQ _ _).2)
  ·rw[if_neg (by decide),← mm.2]
   exact(j4 t3).trans (aV rfl rfl (LQ _ _).1)
 rw[show[min a b,max a b].map (fun x=>QT (f x))=[.bool (f (min a b)),.bool (f (max a b))] from rfl,aS (cr t1)]
 unfold wD
 rw[bx ((eJ t2).trans (bx (cp v)))]
 rfl
theorem LR(f:Nat→Int×Int)(h2:N.length≤1000)(ht:N[t]?=some (bU a b))(ha:Wv e N R w k a (Qp (f a)))(hb:Wv e N R w k b (Qp (f b)))(sa:Sm (f a))(sb:Sm (f b)):Wv e N R w (k+1) t (.bool (decide ((f a).1*(f b).2=(f b).1*(f a).2))):=by
 show b8 (k+1) [.ref 1,pI (t:Nat),.ref w] (bk e N R)=_
 have hx:∀ x∈[min a b,max a b],x=a∨x=b:=fun x hx=>by simp at hx;lia
 have hk:∀ x∈[min a b,max a b],Wv e N R w k x (Qp (f x)):=fun x h=>by
  rcases hx x h with rfl | rfl
  ·exact ha
  ·exact hb
 have hs:∀ x∈[min a b,max a b],Sm (f x):=fun x h=>by
  rcases hx x h with rfl | rfl
  ·exact sa
  ·exact sb
 have s1:=hs (min a b) (by simp)
 have s2:=hs (max a b) (by simp)
 rw[vY (op:="=") (ts:=[min a b,max a b]) (so:=0) (dt:=.inl 0) (fun x=>Qp (f x)) h2 ht fe (by decide) (by decide) (by decide) (by decide) (by decide) (by simp) hk]
 unfold wC
 have t1:=gR (i:=3) (a:="=") (b:="not") (ρ:=wR t w "=" (.tuple (tI [min a b,max a b])) [some (.dat (.list [Qp (f (min a b)),Qp (f (max a b))])),none,none]) (Xx:=bk e N R) rfl fe hZ
 have t2:=ED (i:=3) (a:="=") (b:="and") (c:="or") (ρ:=wR t w "=" (.tuple (tI [min a b,max a b])) [some (.dat (.list [Qp (f (min a b)),Qp (f (max a b))])),none,none]) (Xx:=bk e N R) rfl fe iK pf
 have t3:=gR (i:=3) (a:="=") (b:="=") (ρ:=wR t w "=" (.tuple (tI [min a b,max a b])) [some (.dat (.list [Qp (f (min a b)),Qp (f (max a b))])),none,none]) (Xx:=bk e N R) rfl fe fe
 have m1:am bR (aq (aq (aa 5) (ae (.int 0))) (ae (.int 0))) (aq (aq (aa 5) (ae (.int 1))) (ae (.int 1))) (wR t w "=" (.tuple (tI [min a b,max a b])) [some (.dat (.list [Qp (f (min a b)),Qp (f (max a b))])),none,none]) (bk e N R)=some (pI ((f (min a b)).1*(f (max a b)).2),bk e N R) :=
  aV (a:=.int (f (min a b)).1) (b:=.int (f (max a b)).2) rfl rfl (dP (by have:=s1.top;exact zs) (by have:=s1.top;exact zt))
 have m2:am bR (aq (aq (aa 5) (ae (.int 1))) (ae (.int 0))) (aq (aq (aa 5) (ae (.int 0))) (ae (.int 1))) (wR t w "=" (.tuple (tI [min a b,max a b])) [some (.dat (.list [Qp (f (min a b)),Qp (f (max a b))])),none,none]) (bk e N R)=some (pI ((f (max a b)).1*(f (min a b)).2),bk e N R) :=
  aV (a:=.int (f (max a b)).1) (b:=.int (f (min a b)).2) rfl rfl (dP (by have:=s2.top;exact zs) (by have:=s2.top;exact zt))
 have tb:qE (aq (aa 5) (ae (.int 0))) (wR t w "=" (.tuple (tI [min a b,max a b])) [some (.dat (.list [Qp (f (min a b)),Qp (f (max a b))])),none,none]) (bk e N R)=some (false,bk e N R):=rfl
 have v:=(j4 (f:=am bS (aq (aa 5) (ae (.int 0))) (aq (aa 5) (ae (.int 1)))) tb).trans (aV (G:=aP fun a b=>a==b) m1 m2 rfl)
 rw[show[min a b,max a b].map (fun x=>Qp (f x))=[Qp (f (min a b)),Qp (f (max a b))] from rfl,aS (cr t1)]
 unfold wD
 rw[aS (cr t2)]
 unfold wE
 rw[bx ((eJ t3).trans (bx (cp v)))]
 show some (PV.dat (.bool _),_)=some (PV.dat (.bool _),_)
 refine congrArg (fun b=>some (PV.dat (.bool b),bk e N R)) ?_
 rw[SB,beq_iff_eq,decide_eq_true_eq]
 by_cases h:a≤b
 ·rw[T5 h,TL h]
 ·rw[TM (by lia),T6 (by lia)]
  exact eq_comm
theorem EG (mulq:Bool) (f:Nat→Int×Int) (h2:N.length≤1000) (ho:op=if mulq then("*":Str) else("+":Str)) (ht:N[t]?=some ⟨op,C6 (a::ts),so,dt⟩) (hl:ts.length≤10) (hk:∀ x∈a::ts,Wv e N R w k x (Qp (f x))) (hs:∀ x∈ts,Sm (f x))
  (hf:∀ j,Sm ((ts.take j).foldl (fun x y=>(if mulq then tQ else pQ) x (f y)) (f a))):Wv e N R w (k+1) t (Qp (ts.foldl (fun x y=>(if mulq then tQ else pQ) x (f y)) (f a))):=by
 revert e N R w k t op ts dt so a mulq f
 refine @jV _ _ _ _ _ _ _ _ nI ?_
 generalize q1 _=e,q2 _=N,q3 _=R,q4 _=w,q5 _=k,q6 _=t,qe _=op
 refine @u4 _ _ _ _ _ _ _ nI ?_
 generalize q1 _=ts,q2 _=dt,q3 _=so,q4 _=a,q5 _=mulq,qe _=f
 intro h2 ho ht hl hk hs hf
 have lay:Qv (.str op)=true:=by rw[ho];cases mulq<;>first | exact oj | exact ol
 show b8 (k+1) [.ref 1,pI (t:Nat),.ref w] (bk e N R)=_
 rw[vY (op:=op) (ts:=a::ts) (so:=so) (dt:=dt) (fun x=>Qp (f x)) h2 ht lay (by rw[ho];cases mulq<;>decide) (by rw[ho];cases mulq<;>decide) (by rw[ho];cases mulq<;>decide) (by rw[ho];cases mulq<;>decide) (by rw[ho];cases mulq<;>decide) (by simp;exact nA) hk]
 have t1:=gR (i:=3) (a:=op) (b:="not") (ρ:=wR t w op (.tuple (tI (a::ts))) [some (.dat (.list ((a::ts).map fun x=>Qp (f x)))),none,none]) (Xx:=bk e N R) rfl lay hZ
 rw[show(op==("not":Str))=false from by rw[ho];cases mulq<;>decide] at t1
 have t2:=ED (i:=3) (a:=op) (b:="and") (c:="or") (ρ:=wR t w op (.tuple (tI (a::ts))) [some (.dat (.list ((a::ts).map fun x=>Qp (f x)))),none,none]) (Xx:=bk e N R) rfl lay iK pf
 rw[show((("and":Str)==op)||(("or":Str)==op))=false from by rw[ho];cases mulq<;>decide] at t2
 have t3:=gR (i:=3) (a:=op) (b:="=") (ρ:=wR t w op (.tuple (tI (a::ts))) [some (.dat (.list ((a::ts).map fun x=>Qp (f x)))),none,none]) (Xx:=bk e N R) rfl lay fe
 rw[show(op==("=":Str))=false from by rw[ho];cases mulq<;>decide] at t3
 unfold wC
 rw[aS (cr t1)]
 unfold wD
 rw[aS (cr t2)]
 unfold wE
 rw[aS (cr t3)]
 unfold wF
 have s6:bQ 6 (aq (aa 5) (ae (.int 0))) (wR t w op (.tuple (tI (a::ts))) [some (.dat (.list ((a::ts).map fun x=>Qp (f x)))),none,none]) (bk e N R)=some (.next,wR t w op (.tuple (tI (a::ts))) [some (.dat (.list ((a::ts).map fun x=>Qp (f x)))),some (.dat (Qp (f a))),none],bk e N R):=dJ rfl
 rw[aS s6]
 have fr:vw 1 (aa 5) (wR t w op (.tuple (tI (a::ts))) [some (.dat (.list ((a::ts).map fun x=>Qp (f x)))),some (.dat (Qp (f a))),none]) (bk e N R)=some (.dat (.list (ts.map fun x=>Qp (f x))),bk e N R):=by
  show(if small ((a::ts).map fun x=>Qp (f x)) then some (PV.dat (.list (((a::ts).map fun x=>Qp (f x)).drop 1)),bk e N R) else none)=_
  rw[if_pos (by simp[small];exact nA)]
  rfl
 obtain⟨Yg,XK,h1,⟨o,q1⟩,q2⟩:=kP (g:=bZ 7) (body:=(ah (bQ 6 (eV (ao (am bS (aa 3) (ae (.str "*")))) (aI eX (ac (aa 6) (ac (aa 7) af))) (aI fz (ac (aa 6) (ac (aa 7) af))))) az)) (fun j ρ Xx=>(∃ o,ρ=wR t w op (.tuple (tI (a::ts))) [some (.dat (.list ((a::ts).map fun x=>Qp (f x)))),some (.dat (Qp ((ts.take j).foldl (fun x y=>(if mulq then tQ else pQ) x (f y)) (f a)))),o])∧Xx=bk e N R)
  (gB (.inl fr) (by simp;exact nA)) ⟨⟨none,rfl⟩,rfl⟩ (fun j hj ρ Xx z=>by
   obtain⟨⟨o,q1⟩,q2⟩:=z
   subst q1 q2
   have hj':j<ts.length:=by simpa using hj
   have hx':(ts.map fun x=>Qp (f x))[j]=Qp (f ts[j]):=UX ..
   rw[hx']
   have t4:=gR (i:=3) (a:=op) (b:="*") (ρ:=wR t w op (.tuple (tI (a::ts))) [some (.dat (.list ((a::ts).map fun x=>Qp (f x)))),some (.dat (Qp ((ts.take j).foldl (fun x y=>(if mulq then tQ else pQ) x (f y)) (f a)))),some (.dat (Qp (f ts[j])))]) (Xx:=bk e N R) rfl lay oj
   refine⟨_,_,_,.next,rfl,(aS (dJ (p:=.dat (Qp ((if mulq then tQ else pQ) ((ts.take j).foldl (fun x y=>(if mulq then tQ else pQ) x (f y)) (f a)) (f ts[j])))) (XA:=bk e N R) ?_)).trans rfl,.inl rfl,⟨some (.dat (Qp (f ts[j]))),?_⟩,rfl⟩
   ·cases mulq with
    | true =>
     rw[show(op==("*":Str))=true from by rw[ho];decide] at t4
     exact(ml t4).trans ((bO rfl).trans (Ar (hf j) (hs _ (Rt hj'))))
    | false =>
     rw[show(op==("*":Str))=false from by rw[ho];decide] at t4
     exact(j4 t4).trans ((bO rfl).trans (BM (hf j) (hs _ (Rt hj'))))
   ·rw[← Ro hj',UA]
    rfl)
 subst q1 q2
 rw[Qs,Sn] at h1
 rw[aS h1]
 rfl
end
theorem on(h:Int):2*(be h).1=h*(be h).2∧0<(be h).2:=by
 unfold be
 split
 ·exact⟨by show 2*(h / 2)=h*1;lia,by show(0:Int)<1;decide⟩
 ·exact⟨by show 2*h=h*2;lia,by show(0:Int)<2;decide⟩
theorem jL(b:h.natAbs≤M):Sz M 2 (be h):=by
 unfold be
 split
 ·exact⟨QH (Sw ..) b,by show(0:Int)<1∧(1:Int)≤2;decide⟩
 ·exact⟨b,by show(0:Int)<2∧(2:Int)≤2;decide⟩
structure Vz (x:Int×Int) (z:Int):Prop where
 pos:0<x.2
 is:4*x.1=z*x.2
theorem Vz.pl(a:Vz x z)(b:Vz y z'):Vz (pQ x y) (z+z'):=by
 refine⟨S9 a.pos b.pos,?_⟩
 show 4*(x.1*y.2+y.1*x.2)=(z+z')*(x.2*y.2)
 have h1:4*(x.1*y.2)=z*(x.2*y.2):=by rw[← QK,a.is,QK]
 have h2:4*(y.1*x.2)=z'*(x.2*y.2):=by rw[← QK,b.is,QK,T8 y.2 x.2]
 rw[TZ,h1,h2,VB]
theorem tm(h:Int):Vz (be h) (2*h):=⟨(on h).2,by have:=(on h).1;rw[QK,← this];lia⟩
theorem Ga(a b c d:Int):(a*b)*(c*d)=(a*c)*(b*d):=by ac_rfl
theorem vZ(h w:Int):Vz (tQ (be h) (be w)) (h*w):=by
 have a:=on h
 have b:=on w
 refine⟨S9 a.2 b.2,?_⟩
 show 4*((be h).1*(be w).1)=h*w*((be h).2*(be w).2)
 have:(2*(be h).1)*(2*(be w).1)=(h*(be h).2)*(w*(be w).2):=by rw[a.1,b.1]
 have e1:(2*(be h).1)*(2*(be w).1)=4*((be h).1*(be w).1):=by rw[Ga];rfl
 have e2:(h*(be h).2)*(w*(be w).2)=h*w*((be h).2*(be w).2):=Ga ..
 lia
theorem Sz.pl(a:Sz M D x)(b:Sz M' D' y):Sz (M*D'+M'*D) (D*D') (pQ x y):=by
 have h1:(x.1*y.2).natAbs≤M*D':=by rw[RX];exact SS a.top (by have:=b.bot;exact zK)
 have h2:(y.1*x.2).natAbs≤M'*D:=by rw[RX];exact SS b.top (by have:=a.bot;exact zK)
 refine⟨?_,S9 a.bot.1 b.bot.1,?_⟩
 ·show(x.1*y.2+y.1*x.2).natAbs≤_
  have:=Int.natAbs_add_le (x.1*y.2) (y.1*x.2)
  lia
 ·show x.2*y.2≤((D*D':Nat):Int)
  rw[T4]
  exact TB a.bot.2 b.bot.2 (by have:=b.bot.1;exact U9 (by assumption)) (RE _)
theorem Sz.ti(a:Sz M D x)(b:Sz M' D' y):Sz (M*M') (D*D') (tQ x y):=by
 refine⟨by show(x.1*y.1).natAbs≤_;rw[RX];exact SS a.top b.top,S9 a.bot.1 b.bot.1,?_⟩
 show x.2*y.2≤((D*D':Nat):Int)
 rw[T4]
 exact TB a.bot.2 b.bot.2 (by have:=b.bot.1;lia) (by lia)
theorem BO{f:Nat→Int×Int}(ha:Sz 100 4 a)(L:List Nat)(h3:L.length≤3)(h:∀ x∈L,Sz 100 4 (f x)):Sm (L.foldl (fun x y=>pQ x (f y)) a):=by
 cases L with
 | nil=>exact ha.sm (by decide) (by decide)
 | cons p L =>
  have s:=ha.pl (h p (.head _))
  cases L with
  | nil=>exact s.sm (by decide) (by decide)
  | cons q L =>
   have s:=s.pl (h q (.tail _ (.head _)))
   cases L with
   | nil=>exact s.sm (by decide) (by decide)
   | cons r L =>
    cases L with
    | nil=>exact(s.pl (h r (.tail _ (.tail _ (.head _))))).sm' (by decide) (by decide)
    | cons=>exact absurd h3 (by simp)
structure Wd (e:En) (N:List Nd) (R:List AO) (w:Nat) (w4 w5:Int) (p:Bool):Prop where
 at_:∃ D,(bk e N R)[w]?=some (AO.idict D)∧gu D 4=some (.dat (Dh w4))∧gu D 5=some (.dat (Dh w5))∧gu D 3=some (.dat (.bool p))
 b4:w4.natAbs≤4
 b5:w5.natAbs≤4
noncomputable def cO(w4 w5:Int)(p:Bool)(u:Nat):Int:=if u=4 then w4 else if u=5 then w5 else if p then 4 else w4
section
variable {e:En} {N:List Nd} {R:List AO} {w k t u:Nat} {s w4 w5 h:Int} {p:Bool} {ts:List Nat}
theorem xG(o:OK s N)(h2:N.length≤1000)(hw:Wd e N R w w4 w5 p):Wv e N R w (k+1) 3 (.bool p):=by
 refine GB (hw.at_) fun D d0 d4 d5 d3=>?_
 exact vX h2 (o.at (i:=3) rfl) rfl d0 d3
theorem kQ(o:OK s N)(h2:N.length≤1000)(hw:Wd e N R w w4 w5 p)(hu:tri u=true):Wv e N R w (k+2) u (Dh (cO w4 w5 p u)):=by
 refine GB (hw.at_) fun D d0 d4 d5 d3=>?_
 rcases dm.mp hu with rfl | rfl | rfl
 ·exact vX h2 (o.at (i:=4) rfl) rfl d0 d4
 ·exact vX h2 (o.at (i:=5) rfl) rfl d0 d5
 ·refine Ng (c:=3) (a:=6) (b:=4) (p:=p) (s:=s) h2 (o.at (i:=7) rfl) (vX h2 (o.at (i:=3) rfl) rfl d0 d3) ?_
  cases p with
  | true=>exact yo (x:=(2,1)) (s:=s) h2 (o.at (i:=6) rfl)
  | false=>exact vX h2 (o.at (i:=4) rfl) rfl d0 d4
theorem tS(hw:Wd e N R w w4 w5 p)(u:Nat):(cO w4 w5 p u).natAbs≤4:=by
 have:=hw.b4
 have:=hw.b5
 unfold cO
 split
 ·omega
 ·split
  ·omega
  ·cases p<;>simp<;>omega
theorem As(o:OK s N)(h2:N.length≤1000)(hw:Wd e N R w w4 w5 p)(m:Mo N s t u h)(hu:tri u=true)(hb:h.natAbs≤20):∃ x,Wv e N R w (k+3) t (Qp x)∧Vz x (h*cO w4 w5 p u)∧Sz 100 4 x:=by
 have bd:=tS hw u
 cases m with
 | unk hk a b =>
  refine⟨be (cO w4 w5 p t),kQ o h2 hw hu,tm _,?_⟩
  have:=jL (M:=4) bd
  exact⟨by have:=this.top;exact nA,by have:=this.bot;exact zA⟩
 | num a=>exact absurd hu (by decide)
 | mul a b c =>
  rename_i i
  have XU:i≠u:=fun q=>by
   obtain⟨⟨n,n1,n2⟩,_⟩:=o.unk u hu
   rw[q,n1] at b
   obtain rfl:=cE b
   rcases n2 with n2 | n2<;>exact absurd n2 (by show ¬ (("num":Str)=_);decide)
  have f1:∀ y,Sz 20 2 (if y=u then be (cO w4 w5 p u) else be h):=fun y=>by
   split
   ·have:=jL (M:=4) bd
    exact⟨by have:=this.top;exact nA,this.bot⟩
   ·exact jL hb
  have sm1:∀ y,Sm (if y=u then be (cO w4 w5 p u) else be h):=fun y=>(f1 y).sm (by decide) (by decide)
  have wf:=EG (e:=e) (N:=N) (R:=R) (w:=w) (k:=k+2) (t:=t) (op:="*") (ts:=[u]) (a:=i) (so:=s) (dt:=.inl 0) true (fun y=>if y=u then be (cO w4 w5 p u) else be h) h2 rfl a (by simp) (fun x hx=>by
   simp at hx
   rcases hx with rfl | rfl
   ·rw[if_neg XU];exact yo h2 b
   ·rw[if_pos rfl];exact kQ o h2 hw hu) (fun x _=>sm1 x) (fun j=>by
   cases j with
   | zero=>exact sm1 i
   | succ j =>
    rw[show[u].take (j+1)=[u] from by simp]
    exact((f1 i).ti (f1 u)).sm (by decide) (by decide))
  refine⟨tQ (be h) (be (cO w4 w5 p u)),?_,vZ _ _,?_⟩
  ·have:[u].foldl (fun x y=>(if true then tQ else pQ) x (if y=u then be (cO w4 w5 p u) else be h)) (if i=u then be (cO w4 w5 p u) else be h)=tQ (be h) (be (cO w4 w5 p u)):=by
    rw[if_neg XU]
    show tQ (be h) (if u=u then _ else _)=_
    rw[if_pos rfl]
   rw[this] at wf
   exact wf
  ·have:=(jL hb).ti (jL bd)
   exact⟨by have:=this.top;exact nA,by have:=this.bot;assumption⟩
noncomputable def qT(w4 w5:Int)(p:Bool)(l:List (Nat×Int)):Int:=(l.map fun x=>x.2*cO w4 w5 p x.1).sum
theorem IM{f:Nat→Int×Int}:∀ {ts:List Nat} {l:List (Nat×Int)},Ms N s ts l→(∀ t∈ts,∀ u h,Mo N s t u h→(u,h)∈l→Vz (f t) (g (u,h)))→∀ {a:Int×Int} {z:Int},Vz a z→Vz (ts.foldl (fun x y=>pQ x (f y)) a) (z+(l.map g).sum):=by
 intro ts l m
 induction m with
 | nil=>intro _ a z h;simpa using h
 | @cons t x ts l q m ih =>
  intro h a z ha
  have:=ih (fun t ht u hh mo hm=>h t (.tail _ ht) u hh mo (.tail _ hm)) (ha.pl (h t (.head _) x.1 x.2 q (.head _)))
  rw[QX,Tk,← W4]
  exact this
theorem C7(o:OK s N)(h2:N.length≤1000)(hw:Wd e N R w w4 w5 p)(m:Ms N s ts l)(hl:∀ x∈l,tri x.1=true∧x.2.natAbs≤20)(h3:l.length≤3)(hL:ts=[L]∨(2≤ts.length∧N[L]?=some (dz ts s))):
  ∃ x,Wv e N R w (k+4) L (Qp x)∧Vz x (qT w4 w5 p l)∧Sm x:=by
 revert e N R w k s w4 w5 p ts l L
 refine @p9 _ _ _ _ _ _ _ _ _ _ _ _ _ nI ?_
 generalize q1 _=e,q2 _=N,q3 _=R,q4 _=w,q5 _=k,q6 _=s,q7 _=w4,q8 _=w5,q9 _=p,lI _=ts,qx _=l,qe _=L
 intro o h2 hw m hl h3 hL
 rcases hL with rfl | ⟨XQ,hL⟩
 ·cases m with
  | cons q m =>
   cases m
   rename_i x
   refine d9 (As (k:=k+1) o h2 hw q (hl x (.head _)).1 (hl x (.head _)).2) fun y y1 y2 y3=>?_
   exact⟨y,y1,by simpa [qT] using y2,y3.sm (by decide) (by decide)⟩
 ·
  have ex:∀ t,∃ y:Int×Int,t∈ts→Wv e N R w (k+3) t (Qp y)∧Vz y ((ff N t).2*cO w4 w5 p (ff N t).1)∧Sz 100 4 y:=fun t=>by
   by_cases ht:t∈ts
   ·refine aH (m.mem t ht) fun x hx q=>?_
    refine d9 (As (k:=k) o h2 hw q (hl x hx).1 (hl x hx).2) fun y y1 y2 y3=>?_
    refine⟨y,fun _=>⟨y1,?_,y3⟩⟩
    rw[tR o q]
    exact y2
   ·exact⟨(0,1),fun h=>absurd h ht⟩
  let f:Nat→Int×Int:=fun t=>Classical.choose (ex t)
  have hf:∀ t∈ts,Wv e N R w (k+3) t (Qp (f t))∧Vz (f t) ((ff N t).2*cO w4 w5 p (ff N t).1)∧Sz 100 4 (f t):=fun t=>Classical.choose_spec (ex t)
  have tl:ts.length≤3:=by have:=congrArg Vv (m.map o);rw[Qs] at this;lia
  cases m with
  | nil=>simp at XQ
  | @cons a x tr lr q m =>
   have tl':tr.length≤2:=by simp at tl;assumption
   have wf:=EG (e:=e) (N:=N) (R:=R) (w:=w) (k:=k+3) (t:=L) (op:="+") (ts:=tr) (a:=a) (so:=s) (dt:=.inl 0) false f h2 rfl hL nA (fun x hx=>(hf x hx).1) (fun x hx=>(hf x (.tail _ hx)).2.2.sm (by decide) (by decide)) (fun j=>BO (hf a (.head _)).2.2 (tr.take j) (by simp;exact Kn) fun x hx=>(hf x (.tail _ (VA hx))).2.2)
   refine⟨_,wf,?_,BO (hf a (.head _)).2.2 tr nA fun x hx=>(hf x (.tail _ hx)).2.2⟩
   have v0:=(hf a (.head _)).2.1
   rw[tR o q] at v0
   have:=IM (f:=f) (g:=fun x=>x.2*cO w4 w5 p x.1) m (fun t ht u hh mo _=>by
    have:=(hf t (.tail _ ht)).2.1
    rw[tR o mo] at this
    exact this) v0
   exact this
theorem C8 (o:OK s N) (h2:N.length≤1000) (hw:Wd e N R w w4 w5 p) (m:Ms N s ts l) (hl:∀ x∈l,tri x.1=true∧x.2.natAbs≤20) (h3:l.length≤3) (hL:ts=[L]∨(2≤ts.length∧N[L]?=some (dz ts s)))
  (hr:N[r]?=some (aM B s)) (XU:L≠r) (ht:N[t]?=some (bU L r)) (hB:Sm B):Wv e N R w (k+5) t (.bool (decide (qT w4 w5 p l*B.2=4*B.1))):=by
 refine d9 (C7 (k:=k) o h2 hw m hl h3 hL) fun x x1 x2 x3=>?_
 have hf1:(fun y=>if y=r then B else x) L=x:=if_neg XU
 have hf2:(fun y=>if y=r then B else x) r=B:=if_pos rfl
 have we:=LR (e:=e) (N:=N) (R:=R) (w:=w) (k:=k+4) (t:=t) (a:=L) (b:=r) (fun y=>if y=r then B else x) h2 ht (by rw[if_neg XU];exact x1) (by rw[if_pos rfl];exact yo h2 hr) (by rw[if_neg XU];exact x3) (by rw[if_pos rfl];exact hB)
 rw[if_neg XU,if_pos rfl] at we
 have:(x.1*B.2=B.1*x.2)↔(qT w4 w5 p l*B.2=4*B.1):=by
  have hx:=x2.is
  have hp:=x2.pos
  generalize qT w4 w5 p l=z at *
  have e1:4*(x.1*B.2)=z*B.2*x.2:=by rw[← QK,hx,Ss]
  have e2:4*(B.1*x.2)=4*B.1*x.2:=by rw[QK]
  constructor
  ·intro h
   have:z*B.2*x.2=4*B.1*x.2:=by rw[← e1,← e2,h]
   exact Tb (Tt (by assumption)) this
  ·intro h
   rw[h] at e1
   omega
 rw[show decide (qT w4 w5 p l*B.2=4*B.1)=decide (x.1*B.2=B.1*x.2) from by simp only[this]]
 exact we
end
section
variable {e:En} {N M:List Nd} {R:List AO} {w t u:Nat} {s w4 w5 h x y k v:Int} {p:Bool} {ts:List Nat} {d:Nat→Int} {B:Int×Int}
theorem A6:∀ (us acc:List Nat) (l:List (Nat×Int)) (N:List Nd),OK s N→(∀ u∈us,tri u=true)→Ms N s acc l→∃ N' XN,(∀ k,run (gS s d us acc k) N=run (k XN) N')∧OK s N'∧N <+: N'∧Ms N' s XN (l++us.map fun u=>(u,d u)):=by
 intro us
 induction us with
 | nil=>intro acc l N o _ m;exact⟨N,acc,fun k=>rfl,o,Rj _,by simpa using m⟩
 | cons u us ih =>
  intro acc l N o hu m
  refine iL (td o (hu u (.head _)) (be (d u))) fun o1 p1 _=>?_
  refine GC (ih (acc++[(dH N (be (d u)) s u).1]) (l++[(u,d u)]) _ o1 (fun z hz=>hu z (.tail _ hz)) ((m.ext p1).snoc (Aq o (hu u (.head _))))) fun N' XN a1 a2 a3 a4=>?_
  refine⟨N',XN,fun k=>?_,a2,p1.trans a3,by simpa using a4⟩
  rw[← a1 k]
  exact xC N (be (d u)) s u fun t=>gS s d us (acc++[t]) k
theorem LS(m:Ms N s ts l):ts.length=l.length:=by
 induction m with
 | nil=>rfl
 | cons _ _ ih=>simp[ih]
theorem Hm(q:Mo N s a u h)(ht:tri u=true):∃ n,N[a]?=some n∧n.op≠("num":Str):=by
 cases q with
 | unk hk a b=>exact⟨_,a,by rcases b with b | b<;>rw[b]<;>decide⟩
 | mul a _ _=>exact⟨_,a,by show("*":Str)≠_;decide⟩
 | num a=>exact absurd rfl (om ht)
theorem v6(o:OK s N)(XU:cu d≠[]):∃ ts L r,Ms (run (eA s d B) N).2 s ts ((cu d).map fun u=>(u,d u))∧(ts=[L]∨(2≤ts.length∧(run (eA s d B) N).2[L]?=some (dz ts s)))∧(run (eA s d B) N).2[r]?=some (aM B s)∧L≠r∧(run (eA s d B) N).2[(run (eA s d B) N).1]?=some (bU L r):=by
 refine cps fun G kG=>?_
 refine GC (A6 (d:=d) (cu d) [] [] N o (fun u hu=>(fA hu).1) .nil) fun N' acc a1 a2 a3 a4=>?_
 rw[SC] at a4
 have hr:run (eA s d B) N=run (.mk (aM B s) fun r=>.mk (bU (f0 N' acc s).1 r) .ret) (f0 N' acc s).2:=by
  unfold eA
  rw[a1,BA]
 have hal:acc.length=(cu d).length:=by rw[LS a4,Qs]
 have hpos:0<acc.length:=by rw[hal];exact Tg.mpr XU
 have shp:OK s (f0 N' acc s).2∧N' <+: (f0 N' acc s).2∧(acc=[(f0 N' acc s).1]∨(2≤acc.length∧(f0 N' acc s).2[(f0 N' acc s).1]?=some (dz acc s)))∧∃ n,(f0 N' acc s).2[(f0 N' acc s).1]?=some n∧n.op≠("num":Str):=by
  clear hr a1 hal
  cases acc with
  | nil=>exact absurd hpos (Ti _)
  | cons a r=>cases r with
  | nil =>
  refine⟨a2,Rj _,.inl rfl,?_⟩
  show ∃ n,N'[a]?=some n∧_
  refine aH (a4.mem a (.head _)) fun z hz q=>?_
  refine aH (QL.mp hz) fun u hu XX=>?_
  subst XX
  have ht:=(fA hu).1
  exact Hm q ht
  | cons b r =>
   have at1:=dU (N:=N') (n:=dz (a::b::r) s) (by have:=a2.len;exact nB)
   exact⟨a2.add _,db ..,.inr ⟨by simp,at1.1⟩,_,at1.1,by show("+":Str)≠_;decide⟩
 obtain⟨o1,p1,hL,n,n1,n2⟩:=shp
 generalize (f0 N' acc s).2=N1 at *
 generalize (f0 N' acc s).1=L at *
 have at2:=dU (N:=N1) (n:=aM B s) (by have:=o1.len;exact nB)
 have o2:=o1.add (aM B s)
 have p2:=db N1 (aM B s)
 have at3:=dU (N:=(aU N1 (aM B s)).2) (n:=bU L (aU N1 (aM B s)).1) (by have:=o2.len;exact nB)
 have p3:=db (aU N1 (aM B s)).2 (bU L (aU N1 (aM B s)).1)
 refine kG ?_
 rw[hr]
 refine⟨acc,L,(aU N1 (aM B s)).1,((a4.ext p1).ext p2).ext p3,?_,b7 p3 at2.1,fun q=>?_,at3.1⟩
 ·rcases hL with h | ⟨h1,h2⟩
  ·exact .inl h
  ·exact .inr ⟨h1,b7 p3 (b7 p2 h2)⟩
 ·have:=b7 p2 n1
  rw[q,at2.1] at this
  obtain rfl:=cE this
  exact n2 rfl
theorem EH:qT w4 w5 p ((cu d).map fun u=>(u,d u))=d 4*cO w4 w5 p 4+d 5*cO w4 w5 p 5+d 7*cO w4 w5 p 7:=by
 unfold qT cu
 rw[Ra]
 by_cases h4:d 4=0<;>by_cases h5:d 5=0<;>by_cases h7:d 7=0<;>simp[h4,h5,h7,W4]
theorem IN{x y t k:Int}(c:qR x y t k)(hw:Nat→Int):(2*(x / gz x y t)*hw 4+2*(y / gz x y t)*hw 5+2*(t / gz x y t)*hw 7)*(cB x y t k).2=4*(cB x y t k).1↔x*hw 4+y*hw 5+t*hw 7+2*k=0:=by
 revert c
 revert x y t k hw
 refine @GA _ _ _ _ _ _ nI ?_
 generalize q1 _=x,q2 _=y,q3 _=t,q4 _=k,qe _=hw
 intro c
 have hb:=c.hw.bd.2.1
 have g0:=c.g0
 have ex:=c.ex
 have ey:=c.ey
 have et:=c.et
 have ek:=c.ek
 generalize gz x y t=g at *
 generalize x / g=A at *
 generalize y / g=C at *
 generalize t / g=T at *
 generalize cB x y t k=b at *
 obtain⟨b1,b2⟩:=b
 dsimp only at *
 subst ex ey et
 generalize hS:A*hw 4+C*hw 5+T*hw 7=S
 have e1:2*A*hw 4+2*C*hw 5+2*T*hw 7=2*S:=by rw[← hS,QK,QK,QK];lia
 have e2:A*g*hw 4+C*g*hw 5+T*g*hw 7=S*g:=by rw[← hS,VB,VB,Ss A,Ss C,Ss T]
 rw[e1,e2]
 have e3:S*b2*g=S*g*b2:=Ss ..
 constructor
 ·intro h
  have h1:S*b2=2*b1:=by rw[QK] at h;lia
  have h2:(S*g+2*k)*b2=0:=by
   rw[VB,← e3,h1,QK,ek,QK,SK]
   lia
  rcases R4.mp h2 with q | q
  ·exact q
  ·lia
 ·intro h
  have h1:S*g =-(2*k):=by lia
  have h2:(S*b2 - 2*b1)*g=0:=by
   rw[Int.sub_mul,e3,h1,QK,ek,SK,SK,QK]
   lia
  rcases R4.mp h2 with q | q
  ·rw[QK];lia
  ·exact absurd q g0
theorem IP(h:fF a b=(a,b))(hb:0<b)(hd:b∣a):b=1:=by
 have hg:Rv a.natAbs b.natAbs=b.natAbs:=Ww (Int.natAbs_dvd_natAbs.mpr hd)
 have h2:=congrArg Xs h
 unfold fF at h2
 simp only[show ¬ b<0 from by lia,if_false,hg] at h2
 rw[show((b.natAbs:Nat):Int)=b from by lia,Int.fdiv_self (Tt (by assumption))] at h2
 exact h2.symm
theorem Nj(h1:Vz a z)(h2:Vz b z'):a.1*b.2=b.1*a.2↔z=z':=by
 have p1:=h1.pos
 have p2:=h2.pos
 have e1:4*(a.1*b.2)=z*(a.2*b.2):=by rw[← QK,h1.is,QK]
 have e2:4*(b.1*a.2)=z'*(a.2*b.2):=by rw[← QK,h2.is,QK,T8 b.2 a.2]
 have pp:=S9 p1 p2
 constructor
 ·intro h
  rw[h] at e1
  exact Tb (Tt (by assumption)) (e1.symm.trans e2)
 ·intro h
  rw[h] at e1
  omega
theorem EI{k:Nat}(hab:a≠b)(h2:N.length≤1000)(hj:N[j]?=some (bU a b))(ha:Wv e N R w k a (Qp xa))(hb:Wv e N R w k b (Qp xb))(va:Vz xa z)(vb:Vz xb z')(sa:Sm xa)(sb:Sm xb):Wv e N R w (k+1) j (.bool (decide (z=z'))):=by
 have we:=LR (e:=e) (N:=N) (R:=R) (w:=w) (k:=k) (t:=j) (a:=a) (b:=b) (fun y=>if y=b then xb else xa) h2 hj (by rw[if_neg hab];exact ha) (by rw[if_pos rfl];exact hb) (by rw[if_neg hab];exact sa) (by rw[if_pos rfl];exact sb)
 rw[if_neg hab,if_pos rfl] at we
 rw[show decide (z=z')=decide (xa.1*xb.2=xb.1*xa.2) from by simp only[Nj va vb]]
 exact we
theorem EJ(o:OK s N)(oM:OK s M)(hp:(run (jK s v) N).2 <+: M)(h2:M.length≤1000)(hv : -4≤v∧v≤4)(hw:Wd e M R w w4 w5 p):Wv e M R w 8 (run (jK s v) N).1 (.bool (decide (cO w4 w5 p 7=2*v))):=by
 revert e N M R w s w4 w5 v p
 refine @si _ _ _ _ _ _ _ _ _ _ _ nI ?_
 generalize q1 _=e,q2 _=N,q3 _=M,q4 _=R,q5 _=w,q6 _=s,q7 _=w4,q8 _=w5,q9 _=v,qe _=p
 intro o oM hp h2 hv hw
 have a1:=dU (N:=N) (n:=aM (v,1) s) (by have:=o.len;exact nB)
 have o1:=o.add (aM (v,1) s)
 have hr:run (jK s v) N=run (.mk (bU 4 (aU N (aM (v,1) s)).1) fun j=>if(aU N (aM (v,1) s)).1=6 then .mk (bz 3) fun _=>.mk (bz j) fun _=>.mk (dS "or" 3 j) .ret else .mk (bz 3) fun n1=>.mk (bz j) fun _=>.mk (dS "and" n1 j) .ret) (aU N (aM (v,1) s)).2:=rfl
 rw[hr] at hp ⊢
 generalize (aU N (aM (v,1) s)).2=N1 at *
 generalize (aU N (aM (v,1) s)).1=i at *
 have a2:=dU (N:=N1) (n:=bU 4 i) (by have:=o1.len;exact nB)
 have o2:=o1.add (bU 4 i)
 have p2:=db N1 (bU 4 i)
 have hr2:run (.mk (bU 4 i) fun j=>if i=6 then .mk (bz 3) fun _=>.mk (bz j) fun _=>.mk (dS "or" 3 j) .ret else .mk (bz 3) fun n1=>.mk (bz j) fun _=>.mk (dS "and" n1 j) .ret) N1=run (if i=6 then .mk (bz 3) fun _=>.mk (bz (aU N1 (bU 4 i)).1) fun _=>.mk (dS "or" 3 (aU N1 (bU 4 i)).1) .ret else .mk (bz 3) fun n1=>.mk (bz (aU N1 (bU 4 i)).1) fun _=>.mk (dS "and" n1 (aU N1 (bU 4 i)).1) .ret) (aU N1 (bU 4 i)).2:=rfl
 rw[hr2] at hp ⊢
 have a1':=b7 p2 a1.1
 generalize (aU N1 (bU 4 i)).2=N2 at *
 generalize (aU N1 (bU 4 i)).1=j at *
 have pN2:N2 <+: M:=(Ag _ N2).trans hp
 have hi:M[i]?=some (aM (v,1) s):=b7 pN2 a1'
 have hj:M[j]?=some (bU 4 i):=b7 pN2 a2.1
 have h4:M[4]?=some ⟨"app",[],s,.inl 1⟩:=oM.at rfl
 have hi4:4≠i:=fun q=>by rw[← q,h4] at hi;cases hi
 have h3:M[3]?=some ⟨"app",[],0,.inl 0⟩:=oM.at rfl
 have hj3:j≠3:=fun q=>by rw[q,h3] at hj;cases hj
 have b4:=hw.b4
 have bd:=jL (M:=4) b4
 have ej:∀ k,Wv e M R w (k+3) j (.bool (decide (2*w4=4*v))):=fun k=>EI (k:=k+2) (xa:=be w4) (xb:=(v,1)) hi4 h2 hj (kQ oM h2 hw (u:=4) rfl) (yo h2 hi) (tm w4) ⟨by show(0:Int)<1;decide,by show 4*v=4*v*1;lia⟩ (bd.sm (by decide) (by decide)) ⟨⟨by show -(2 ^ 60)<v;exact zE,by show v<2 ^ 60;exact zH⟩,by show(0:Int)<1∧(1:Int)<2 ^ 60;decide⟩
 have h6:M[6]?=some (aM (2,1) s):=oM.at rfl
 have i6:i=6↔v=2:=by
  constructor
  ·intro q
   rw[q,h6] at hi
   have:=congrArg (fun n:Option Nd=>n.map fun n=>n.dt) hi
   simp[aM] at this
   lia
  ·intro q
   rw[q] at hi
   exact oM.un i 6 _ a1.2 (by decide) hi h6
 have w7:cO w4 w5 p 7=if p then 4 else w4:=rfl
 by_cases q:i=6
 ·have hv2:=i6.mp q
  rw[if_pos q] at hp ⊢
  have b1:=dU (N:=N2) (n:=bz 3) (by have:=o2.len;exact nB)
  have o3:=o2.add (bz 3)
  have o4:=o3.add (bz j)
  have b3:=dU (N:=(aU (aU N2 (bz 3)).2 (bz j)).2) (n:=dS "or" 3 j) (by have:=o4.len;exact nB)
  have hT:=b7 hp b3.1
  have wb:=Hl (e:=e) (N:=M) (R:=R) (w:=w) (k:=7) (op:="or") (a:=3) (b:=j) (fun z=>if z=3 then p else decide (2*w4=4*v)) h2 (.inr rfl) hT (by rw[if_pos rfl];exact xG oM h2 hw) (by rw[if_neg hj3];exact ej 4)
  rw[if_neg (by decide),if_pos rfl,if_neg hj3] at wb
  have:(p||decide (2*w4=4*v))=decide (cO w4 w5 p 7=2*v):=by
   rw[w7,hv2]
   cases p with
   | true=>rfl
   | false=>simp;lia
  rw[← this]
  exact wb
 ·have hv2:v≠2:=fun z=>q (i6.mpr z)
  rw[if_neg q] at hp ⊢
  have b1:=dU (N:=N2) (n:=bz 3) (by have:=o2.len;exact nB)
  have o3:=o2.add (bz 3)
  have o4:=o3.add (bz j)
  have b3:=dU (N:=(aU (aU N2 (bz 3)).2 (bz j)).2) (n:=dS "and" (aU N2 (bz 3)).1 j) (by have:=o4.len;exact nB)
  have hT:=b7 hp b3.1
  have hn:M[(aU N2 (bz 3)).1]?=some (bz 3):=b7 hp (b7 (db _ _) (b7 (db _ _) b1.1))
  have hnj:j≠(aU N2 (bz 3)).1:=fun z=>by rw[← z,hj] at hn;cases hn
  have wn:Wv e M R w 7 (aU N2 (bz 3)).1 (.bool (!p)):=Ni h2 hn (xG oM h2 hw)
  have wb:=Hl (e:=e) (N:=M) (R:=R) (w:=w) (k:=7) (op:="and") (a:=(aU N2 (bz 3)).1) (b:=j) (fun z=>if z=(aU N2 (bz 3)).1 then !p else decide (2*w4=4*v)) h2 (.inl rfl) hT (by rw[if_pos rfl];exact wn) (by rw[if_neg hnj];exact ej 4)
  rw[if_pos rfl,if_pos rfl,if_neg hnj] at wb
  have:((!p)&&decide (2*w4=4*v))=decide (cO w4 w5 p 7=2*v):=by
   rw[w7]
   cases p with
   | true=>simp;lia
   | false=>simp;lia
  rw[← this]
  exact wb
end
section
variable {e:En} {N M:List Nd} {R:List AO} {w:Nat} {s w4 w5 x y t k:Int} {p:Bool}
theorem LT(x y t:Int):cd x y t 4=2*(x / gz x y t):=rfl
theorem LU(x y t:Int):cd x y t 5=2*(y / gz x y t):=rfl
theorem NY(x y t:Int):cd x y t 7=2*(t / gz x y t):=rfl
theorem C9(c:qR x y t k):qT w4 w5 p ((cu (cd x y t)).map fun u=>(u,cd x y t u))*(cB x y t k).2=4*(cB x y t k).1↔x*cO w4 w5 p 4+y*cO w4 w5 p 5+t*cO w4 w5 p 7+2*k=0:=by
 rw[EH]
 exact IN c (cO w4 w5 p)
theorem w3(q:be h=(1,1)):h=2:=by
 have a:=(on h).1
 rw[q] at a
 simp at a
 lia
theorem At(q:be h=(-1,1)):h =-2:=by
 have a:=(on h).1
 rw[q] at a
 simp at a
 lia
noncomputable def w6(x y t k w4 w5:Int)(p:Bool):Int:=x*cO w4 w5 p 4+y*cO w4 w5 p 5+t*cO w4 w5 p 7+2*k
noncomputable def Ws(e:En)(M:List Nd)(R:List AO)(w:Nat)(b:Bool)(T:Nat):Prop:=Wv e M R w 8 T (.bool b)∧∃ n,M[T]?=some n∧n.sort=0
theorem Ws.of[Decidable a][Decidable b](h:Ws e M R w (decide a) T)(q:a↔b):Ws e M R w (decide b) T:=by
 rw[← decide_eq_decide.mpr q]
 exact h
theorem BP(oM:OK s M)(h2:M.length≤1000):∀ b:Bool,Ws e M R w b (if b then 1 else 2)
 | true=>⟨EE (b:=true) h2 (oM.at (i:=1) rfl) rfl,_,oM.at (i:=1) rfl,rfl⟩
 | false=>⟨EE (b:=false) h2 (oM.at (i:=2) rfl) rfl,_,oM.at (i:=2) rfl,rfl⟩
theorem IQ(can:qR x y t k)(hh:(cB x y t k).2≠1)(hev:w4 % 2=0∧w5 % 2=0):¬ w6 x y t k w4 w5 p=0:=fun q=>by
 have this:=(C9 (w4:=w4) (w5:=w5) (p:=p) can).mpr q
 have gf:=can.hw.bd
 obtain⟨e4,e5⟩:=hev
 rw[EH,LT,LU,NY] at this
 obtain⟨v4,q4⟩:∃ v,cO w4 w5 p 4=2*v:=⟨w4 / 2,by show w4=_;lia⟩
 obtain⟨v5,q5⟩:∃ v,cO w4 w5 p 5=2*v:=⟨w5 / 2,by show w5=_;lia⟩
 obtain⟨v7,q7⟩:∃ v,cO w4 w5 p 7=2*v:=by
  cases p with
  | true=>exact⟨2,rfl⟩
  | false=>exact⟨w4 / 2,by show w4=_;lia⟩
 rw[q4,q5,q7] at this
 refine hh (IP can.rat gf.2.1 ⟨x / gz x y t*v4+y / gz x y t*v5+t / gz x y t*v7,?_⟩)
 have e1:∀ a v:Int,2*a*(2*v)=4*(a*v):=fun a v=>by rw[Ga];rfl
 rw[e1,e1,e1,← TZ,← TZ,QK] at this
 rw[T8]
 generalize x / gz x y t*v4+y / gz x y t*v5+t / gz x y t*v7=A at *
 generalize (cB x y t k).1=B at *
 clear q
 omega
theorem Nk(R':nh x y t k)(can:qR x y t k):∀ z∈(cu (cd x y t)).map (fun u=>(u,cd x y t u)),tri z.1=true∧z.2.natAbs≤20:=fun z hz=>by
 refine aH (QL.mp hz) fun u hu XX=>?_
 subst XX
 refine⟨(fA hu).1,?_⟩
 have h1:=qQ can.ex can.g0 R'.x
 have h2:=qQ can.ey can.g0 R'.y
 have h3:=qQ can.et can.g0 ⟨Rk (by decide) R'.t.1,Rk R'.t.2 (by decide)⟩
 show(cf _ _ _ u).natAbs≤20
 generalize x / gz x y t=a at *
 generalize y / gz x y t=b at *
 generalize t / gz x y t=c at *
 clear can R' hu hz
 unfold cf
 split
 ·exact kR.mpr (by lia)
 ·split
  ·exact kR.mpr (by lia)
  ·split<;>exact kR.mpr (by lia)
theorem Av(oM:OK s M)(h2:M.length≤1000)(R':nh x y t k)(hz:nz x y t=true)(hw:Wd e M R w w4 w5 p)(o0:OK s N0)(hp0:(run (eA s (cd x y t) (cB x y t k)) N0).2 <+: M):Ws e M R w (decide (w6 x y t k w4 w5 p=0)) (run (eA s (cd x y t) (cB x y t k)) N0).1:=by
 have can:=qS R' hz
 have gf:=can.hw.bd
 refine GE (v6 (d:=cd x y t) (B:=cB x y t k) o0 (can.ne hz)) fun ts L r m hL hr XU ht=>?_
 have aw:=C8 (e:=e) (R:=R) (k:=3) oM h2 hw (m.ext hp0) (Nk R' can) (by rw[Qs];exact Q6 _ [4,5,7]) (by
  rcases hL with h | ⟨h1,h2⟩
  ·exact .inl h
  ·exact .inr ⟨h1,b7 hp0 h2⟩) (b7 hp0 hr) XU (b7 hp0 ht) ⟨by exact O9,by exact Pb⟩
 exact Ws.of ⟨aw,_,b7 hp0 ht,rfl⟩ (C9 can)
theorem Gb(o:OK s N)(oM:OK s M)(hp:(aU N (bU a b)).2 <+: M)(h2:M.length≤1000)(can:qR x y t k)(hw:Wd e M R w w4 w5 p)(hb0:(cB x y t k).1=0)(hip:lL ((cQ (cd x y t)).map (·.2))=true)(hq:cu (cd x y t)=[a,b]):
  Ws e M R w (decide (w6 x y t k w4 w5 p=0)) (aU N (bU a b)).1:=by
 have zc:=C9 (w4:=w4) (w5:=w5) (p:=p) can
 have Yo:(cu (cd x y t)).Nodup:=Sr RY (by decide)
 rw[hq] at Yo zc
 have hab:a≠b:=fun z=>by rw[z] at Yo;simp at Yo
 obtain⟨ta,_⟩:=fA (c:=cd x y t) (u:=a) (by rw[hq];exact .head _)
 obtain⟨tb,_⟩:=fA (c:=cd x y t) (u:=b) (by rw[hq];exact .tail _ (.head _))
 have hj:=b7 hp (dU (N:=N) (n:=bU a b) (QH (by decide) o.len)).1
 have ba:=jL (tS hw a)
 have bb:=jL (tS hw b)
 have ev:=EI (k:=7) hab h2 hj (kQ (k:=5) oM h2 hw ta) (kQ (k:=5) oM h2 hw tb) (tm _) (tm _) (ba.sm (by decide) (by decide)) (bb.sm (by decide) (by decide))
 refine Ws.of ⟨ev,_,hj,rfl⟩ ?_
 rw[show(cQ (cd x y t)).map (·.2)=[be (cd x y t a),be (cd x y t b)] by rw[cQ,hq];rfl] at hip
 unfold lL at hip
 simp only[SA,decide_eq_true_eq,Va,and_true] at hip
 rw[show qT w4 w5 p ([a,b].map fun u=>(u,cd x y t u))=cd x y t a*cO w4 w5 p a+cd x y t b*cO w4 w5 p b by simp[qT],hb0] at zc
 refine Iff.trans ?_ zc
 have fin:∀ A B C:Int,(2*A=2*B↔(2*A + -2*B)*C=4*0)∧(2*A=2*B↔(-2*A+2*B)*C=4*0)∨C=0:=fun A B C=>by
  by_cases hC:C=0
  ·exact .inr hC
  ·refine .inl ⟨⟨fun h=>?_,fun h=>?_⟩,fun h=>?_,fun h=>?_⟩
   ·rw[show 2*A + -2*B=0 by lia,Si];rfl
   ·have:=(R4.mp h).resolve_right hC;lia
   ·rw[show -2*A+2*B=0 by lia,Si];rfl
   ·have:=(R4.mp h).resolve_right hC;lia
 have hC:(cB x y t k).2≠0:=fun q=>by have:=can.hw.bd;rw[q] at this;omega
 have f:=(fin (cO w4 w5 p a) (cO w4 w5 p b) (cB x y t k).2).resolve_right hC
 rcases hip with⟨q1,q2⟩ | ⟨q1,q2⟩
 ·rw[w3 q1,At q2]
  exact f.1
 ·rw[At q1,w3 q2]
  exact f.2
theorem Gc(o:OK s N):∃ nn,(run (jK s v) N).2[(run (jK s v) N).1]?=some nn∧nn.sort=0:=by
 revert N s v
 refine @kT _ _ _ _ nI ?_
 generalize q1 _=N,q2 _=s,qe _=v
 intro o
 have o1:=o.add (aM (v,1) s)
 have o2:=o1.add (bU 4 (aU N (aM (v,1) s)).1)
 have hr:run (jK s v) N=run (if(aU N (aM (v,1) s)).1=6 then .mk (bz 3) fun _=>.mk (bz (aU (aU N (aM (v,1) s)).2 (bU 4 (aU N (aM (v,1) s)).1)).1) fun _=>.mk (dS "or" 3 (aU (aU N (aM (v,1) s)).2 (bU 4 (aU N (aM (v,1) s)).1)).1) .ret else .mk (bz 3) fun n1=>.mk (bz (aU (aU N (aM (v,1) s)).2 (bU 4 (aU N (aM (v,1) s)).1)).1) fun _=>.mk (dS "and" n1 (aU (aU N (aM (v,1) s)).2 (bU 4 (aU N (aM (v,1) s)).1)).1) .ret) (aU (aU N (aM (v,1) s)).2 (bU 4 (aU N (aM (v,1) s)).1)).2:=rfl
 rw[hr]
 generalize (aU (aU N (aM (v,1) s)).2 (bU 4 (aU N (aM (v,1) s)).1)).2=N2 at *
 generalize (aU (aU N (aM (v,1) s)).2 (bU 4 (aU N (aM (v,1) s)).1)).1=j at *
 have o3:=o2.add (bz 3)
 have o4:=o3.add (bz j)
 split
 ·exact⟨_,(dU (N:=(aU (aU N2 (bz 3)).2 (bz j)).2) (n:=dS "or" 3 j) (by have:=o4.len;exact nB)).1,rfl⟩
 ·exact⟨_,(dU (N:=(aU (aU N2 (bz 3)).2 (bz j)).2) (n:=dS "and" (aU N2 (bz 3)).1 j) (by have:=o4.len;exact nB)).1,rfl⟩
theorem IR(o:OK s N)(oM:OK s M)(hp:(run (jK s (cB x y t k).1) N).2 <+: M)(h2:M.length≤1000)(can:qR x y t k)(hw:Wd e M R w w4 w5 p)(hq:cu (cd x y t)=[7]):
  Ws e M R w (decide (w6 x y t k w4 w5 p=0)) (run (jK s (cB x y t k).1) N).1:=by
 have zc:=C9 (w4:=w4) (w5:=w5) (p:=p) can
 have sg:=can.one
 rw[show cQ (cd x y t)=[(7,be (cd x y t 7))] by rw[cQ,hq];rfl] at sg
 simp only[vU,qL,Q4,decide_eq_true_eq,beq_self_eq_true,Sc,S1,beq_iff_eq] at sg
 obtain⟨sg1,⟨sg2,sg3⟩,sg4⟩:=sg
 have cw:=EJ (e:=e) (R:=R) o oM hp h2 ⟨sg3,sg4⟩ hw
 rw[hq,show qT w4 w5 p ([7].map fun u=>(u,cd x y t u))=2*cO w4 w5 p 7 by simp[qT,w3 sg1],sg2] at zc
 refine aH (Gc (v:=(cB x y t k).1) o) fun nn n1 n2=>?_
 refine Ws.of ⟨cw,nn,b7 hp n1,n2⟩ (Iff.trans ?_ zc)
 clear zc cw sg3 sg4 can n1 hp
 lia
theorem BQ(o:OK s N)(oM:OK s M)(hp:(run (dx s x y t k) N).2 <+: M)(h2:M.length≤1000)(R':nh x y t k)(hw:Wd e M R w w4 w5 p)(hev:s=1→w4 % 2=0∧w5 % 2=0):
  Wv e M R w 8 (run (dx s x y t k) N).1 (.bool (decide (x*cO w4 w5 p 4+y*cO w4 w5 p 5+t*cO w4 w5 p 7+2*k=0)))∧∃ n,M[(run (dx s x y t k) N).1]?=some n∧n.sort=0:=by
 revert e N M R w s w4 w5 x y t k p
 refine @jV _ _ _ _ _ _ _ _ nI ?_
 generalize q1 _=e,q2 _=N,q3 _=M,q4 _=R,q5 _=w,q6 _=s,qe _=w4
 refine @u4 _ _ _ _ _ _ _ nI ?_
 generalize q1 _=w5,q2 _=x,q3 _=y,q4 _=t,q5 _=k,qe _=p
 intro o oM hp h2 R' hw hev
 show Ws e M R w (decide (w6 x y t k w4 w5 p=0)) _
 unfold dx at hp ⊢
 by_cases hz:nz x y t=false
 ·rw[if_pos hz]
  have hxyt:x=0∧y=0∧t=0:=by simpa [nz,and_assoc] using hz
  refine iL (hxyt) fun XV XW XX=>?_
  subst XV XW XX
  have q:=BP (e:=e) (R:=R) (w:=w) oM h2 (decide (k=0))
  rw[show(if decide (k=0)=true then 1 else 2:Nat)=if k=0 then 1 else 2 by by_cases h:k=0<;>simp[h]] at q
  refine q.of ?_
  unfold w6
  simp only[Si,Xn]
  clear q hp
  lia
 ·rw[if_neg hz] at hp ⊢
  have hz:nz x y t=true:=by simpa using hz
  have can:=qS R' hz
  by_cases hh:s=1∧(cB x y t k).2≠1
  ·rw[if_pos hh,decide_eq_false (IQ can hh.2 (hev hh.1))]
   exact BP oM h2 false
  ·rw[if_neg hh] at hp ⊢
   cases hpp:(decide ((cB x y t k).1=0)&&lL ((cQ (cd x y t)).map (·.2))) with
   | true =>
    rw[hpp,if_pos rfl] at hp
    rw[if_pos rfl]
    have hip:=(TY.mp hpp).2
    have XQ:(cu (cd x y t)).length=2:=by
     have hm:((cQ (cd x y t)).map (·.2)).length=(cu (cd x y t)).length:=by rw[Qs,cQ,Qs]
     have this:=hip
     unfold lL at this
     simp only[SA,decide_eq_true_eq] at this
     rcases this with q | q<;>rw[q] at hm<;>exact hm.symm
    refine jW (CC XQ) fun a b hq=>?_
    rw[hq] at hp ⊢
    exact Gb o oM hp h2 can hw (by simpa using (TY.mp hpp).1) hip hq
   | false =>
    rw[hpp,if_neg (by decide)] at hp
    rw[if_neg (by decide)]
    by_cases h1:(cu (cd x y t)).length=1
    ·refine bM (yW h1) fun u hq=>?_
     rw[hq] at hp ⊢
     dsimp only[qL] at hp ⊢
     by_cases h7:u=7
     ·rw[if_pos h7] at hp ⊢
      exact IR o oM hp h2 can hw (h7▸hq)
     ·rw[if_neg h7] at hp ⊢
      exact Av oM h2 R' hz hw (o.add (aM (cB x y t k) s)) hp
    ·rw[zJ h1] at hp ⊢
     exact Av oM h2 R' hz hw o hp
end
theorem kK(hc:XR Xx j=some (some p))(hg:g p ρ=some X6)(hb:body X6 Xx=some (.next,X7,XB))(h:nx XR g body n (j+1) X7 XB=r):nx XR g body (n+1) j ρ Xx=r:=by
 rw[zl]
 rw[hc]
 dsimp only[pJ,QQ]
 rw[hg]
 dsimp only
 rw[hb]
 exact h
theorem w8(hc:XR Xx j=some none):nx XR g body 0 j ρ Xx=some (.next,ρ,Xx):=by
 rw[D8]
 rw[hc]
theorem v8(h1:src ρ Xx=some (XR,n,XA))(h2:nx XR g body n 0 ρ XA=r):dM src g body ρ Xx=r:=by
 unfold dM
 rw[h1]
 exact h2
noncomputable def xH(s:Int)(i:Nat):List (Int×PV):=[(4,.dat (Dh (hs s ((i:Int) % 5 - 2)))),(5,.dat (Dh (hs s ((i:Int) / 5 % 3 - 1)))),(3,.dat (.bool (decide ((i:Int) / 15=1))))]
noncomputable abbrev wL(n j:Nat):List PV:=(QA j).map fun i=>.ref (n+1+i+11)
noncomputable abbrev gm(s:Int)(n j:Nat):List AO:=AO.list (wL n j)::(QA j).map fun i=>AO.idict (xH s i)
theorem Aw(h1:fk ρ Xx=some (pI k,Xx))(h2:fv ρ Xx=some (p,Xx))(h3:g ρ Xx=some (ps,Xx)):gU fk fv g ρ Xx=some ((k,p)::ps,Xx):=by
 unfold gU
 rw[h1]
 dsimp only[pP,dh,mM,QQ]
 rw[h2]
 dsimp only
 rw[h3]
section
variable {e:En} {N:List Nd} {Xz:List AO} {s:Int}
theorem Gd(hss:s=1∨s=2)(hr:Xz[0]?=some (AO.list [pI 4,pI 5,pI 7])):ly [.ref 1,.ref 11,pI s,pI 3] (bk e N Xz)=some (.ref (Xz.length+11),bk e N (Xz++gm s Xz.length 30)):=by
 revert e N Xz s
 refine @Kp _ _ _ _ _ nI ?_
 generalize q1 _=e,q2 _=N,q3 _=Xz,qe _=s
 intro hss hr
 have r0:0<Xz.length:=(Qt.mp hr).1
 show aY (oY [some (.ref 1),some (.ref 11),some (pI s),some (pI 3),none,none,none] (bk e N Xz))=_
 unfold oY
 have l1:fg af [some (.ref 1),some (.ref 11),some (pI s),some (pI 3),none,none,none] (bk e N Xz)=some (.ref (Xz.length+11),bk e N (Xz++[AO.list []])):=rfl
 rw[aS (dJ l1)]
 dsimp only[RG]
 refine cps fun G kG=>?_
 have src:kb (ac (ae (.int 30)) af) [some (.ref 1),some (.ref 11),some (pI s),some (pI 3),some (.ref (Xz.length+11)),none,none] (bk e N (Xz++[AO.list []]))=some (e6 0 30,30,bk e N (Xz++[AO.list []])):=rfl
 obtain⟨Yg,XK,h1,⟨o1,o2,q1⟩,q2⟩:=oi (XR:=e6 0 30) (g:=bZ 5) (body:=(ah (dN 6 (cF (bp (ac (am eQ (am gO (aa 5) (ae (.int 5))) (ae (.int 2))) (ac (am eQ (am gO (am fu (aa 5) (ae (.int 5))) (ae (.int 3))) (ae (.int 1))) af)))) 1 [2] (bZ 0) dn (cq (aI cN (ac (aa 1) (ac (aa 0) af))))) (ah (cM (d8 "list" cK (aa 4) (ac (mZ (gU (aq (aa 1) (ae (.int 0))) (aq (aa 6) (ae (.int 0))) (gU (aq (aa 1) (ae (.int 1))) (aq (aa 6) (ae (.int 1))) (gU (aa 3) (am (aP fun a b=>a==b) (am fu (aa 5) (ae (.int 15))) (ae (.int 1))) sF)))) af))) az))) (n:=30) (fun j=>pI (j:Nat)) (fun j ρ Xx=>(∃ o1 o2,ρ=[some (.ref 1),some (.ref 11),some (pI s),some (pI 3),some (.ref (Xz.length+11)),o1,o2])∧Xx=bk e N (Xz++gm s Xz.length j))
  (fun j ρ Xx hj _=>by simp[e6,hj]) (fun ρ Xx _=>by simp[e6]) (fun j ρ Xx hj z=>by
   obtain⟨⟨o1,o2,q1⟩,q2⟩:=z
   subst q1 q2
   have hu:∀ x,(bk e N (Xz++x))[11]?=some (AO.list [pI 4,pI 5,pI 7]):=fun x=>by
    show(Xz++x)[0]?=_
    rw[QD r0]
    exact hr
   have m5:∀ a b:Int,b=5∨b=3→gO (.int a) (.int b)=some (.int (a % b)):=fun a b h=>by
    rw[m9 Km,RF _ (by omega)]
   have d5:∀ a b:Int,b=5∨b=15→fu (.int a) (.int b)=some (.int (a / b)):=fun a b h=>by
    rw[lz Km Pc,Re _ (by omega)]
   have tp:bp (ac (am eQ (am gO (aa 5) (ae (.int 5))) (ae (.int 2))) (ac (am eQ (am gO (am fu (aa 5) (ae (.int 5))) (ae (.int 3))) (ae (.int 1))) af)) [some (.ref 1),some (.ref 11),some (pI s),some (pI 3),some (.ref (Xz.length+11)),some (pI (j:Nat)),o2] (bk e N (Xz++gm s Xz.length j))=some (.dat (.tuple [.int ((j:Int) % 5 - 2),.int ((j:Int) / 5 % 3 - 1)]),bk e N (Xz++gm s Xz.length j)):=by
    unfold bp
    rw[cC (aV (aV (a:=.int (j:Nat)) (b:=.int 5) rfl rfl (m5 _ _ (.inl rfl))) rfl rfl) (cP (aV (aV (aV (a:=.int (j:Nat)) (b:=.int 5) rfl rfl (d5 _ _ (.inl rfl))) rfl (m5 _ _ (.inr rfl))) rfl rfl))]
    rfl
   have sc:=uj (i:=6) (nl:=1) (fr:=[2]) (g:=bZ 0) (F:=aI cN (ac (aa 1) (ac (aa 0) af))) (ρ:=[some (.ref 1),some (.ref 11),some (pI s),some (pI 3),some (.ref (Xz.length+11)),some (pI (j:Nat)),o2]) (Xx:=bk e N (Xz++gm s Xz.length j)) (xs:=[.int ((j:Int) % 5 - 2),.int ((j:Int) / 5 % 3 - 1)]) (fun ρ=>∃ o,ρ=[o,some (pI s)]) (z9 fun h=>Dh (hs s h)) (gB (.inr tp) (by simp)) ⟨none,rfl⟩ (fun x hx ρ z=>bM z fun o q=>by
     subst q
     simp only[QJ,RV,or_false] at hx
     rcases hx with rfl | rfl
     ·exact⟨_,rfl,⟨_,rfl⟩,(bO rfl).trans (mq hss)⟩
     ·exact⟨_,rfl,⟨_,rfl⟩,(bO rfl).trans (mq hss)⟩) (by simp)
   have sc:dN 6 _ 1 [2] (bZ 0) dn _ _ _=some (.next,[some (.ref 1),some (.ref 11),some (pI s),some (pI 3),some (.ref (Xz.length+11)),some (pI (j:Nat)),some (.dat (.list [Dh (hs s ((j:Int) % 5 - 2)),Dh (hs s ((j:Int) / 5 % 3 - 1))]))],bk e N (Xz++gm s Xz.length j)):=sc
   have su:∀ (i:Nat) (v:PV),([pI 4,pI 5,pI 7]:List PV)[i]?=some v→aq (aa 1) (ae (.int (i:Nat))) [some (.ref 1),some (.ref 11),some (pI s),some (pI 3),some (.ref (Xz.length+11)),some (pI (j:Nat)),some (.dat (.list [Dh (hs s ((j:Int) % 5 - 2)),Dh (hs s ((j:Int) / 5 % 3 - 1))]))] (bk e N (Xz++gm s Xz.length j))=some (v,bk e N (Xz++gm s Xz.length j)):=fun i v hv=>by
    have hi:i<3:=by have:=(Qt.mp hv).1;simpa using this
    refine gW (p:=.ref 11) (k:=(i:Nat)) rfl rfl ?_
    unfold iW
    rw[if_pos (by omega)]
    dsimp only[pD]
    rw[hu]
    exact hv
   have as:am (aP fun a b=>a==b) (am fu (aa 5) (ae (.int 15))) (ae (.int 1)) [some (.ref 1),some (.ref 11),some (pI s),some (pI 3),some (.ref (Xz.length+11)),some (pI (j:Nat)),some (.dat (.list [Dh (hs s ((j:Int) % 5 - 2)),Dh (hs s ((j:Int) / 5 % 3 - 1))]))] (bk e N (Xz++gm s Xz.length j))=some (.dat (.bool (decide ((j:Int) / 15=1))),bk e N (Xz++gm s Xz.length j)) :=
    aV (aV (a:=.int (j:Nat)) (b:=.int 15) rfl rfl (d5 _ _ (.inr rfl))) rfl (by show some (QT ((j:Int) / 15==1))=_;congr 2)
   have dc:mZ (gU (aq (aa 1) (ae (.int 0))) (aq (aa 6) (ae (.int 0))) (gU (aq (aa 1) (ae (.int 1))) (aq (aa 6) (ae (.int 1))) (gU (aa 3) (am (aP fun a b=>a==b) (am fu (aa 5) (ae (.int 15))) (ae (.int 1))) sF))) [some (.ref 1),some (.ref 11),some (pI s),some (pI 3),some (.ref (Xz.length+11)),some (pI (j:Nat)),some (.dat (.list [Dh (hs s ((j:Int) % 5 - 2)),Dh (hs s ((j:Int) / 5 % 3 - 1))]))] (bk e N (Xz++gm s Xz.length j))=some (.ref (Xz.length+1+j+11),bk e N (Xz++gm s Xz.length j++[AO.idict (xH s j)])):=by
    have pc:gU (aq (aa 1) (ae (.int 0))) (aq (aa 6) (ae (.int 0))) (gU (aq (aa 1) (ae (.int 1))) (aq (aa 6) (ae (.int 1))) (gU (aa 3) (am (aP fun a b=>a==b) (am fu (aa 5) (ae (.int 15))) (ae (.int 1))) sF)) [some (.ref 1),some (.ref 11),some (pI s),some (pI 3),some (.ref (Xz.length+11)),some (pI (j:Nat)),some (.dat (.list [Dh (hs s ((j:Int) % 5 - 2)),Dh (hs s ((j:Int) / 5 % 3 - 1))]))] (bk e N (Xz++gm s Xz.length j))=some (xH s j,bk e N (Xz++gm s Xz.length j)) :=
     Aw (su 0 _ rfl) rfl (Aw (su 1 _ rfl) rfl (Aw rfl as rfl))
    unfold mZ
    rw[pc]
    dsimp only[pP]
    rw[if_pos ⟨by simp[xH],by simp[xH]⟩]
    show some (PV.ref ((Xz++gm s Xz.length j).length+11),bk e N ((Xz++gm s Xz.length j)++[AO.idict (xH s j)]))=_
    rw[show(Xz++gm s Xz.length j).length=Xz.length+1+j from by simp;omega]
   have li:∀ x,(Xz++gm s Xz.length j++x)[Xz.length]?=some (AO.list (wL Xz.length j)):=fun x=>by
    rw[QF,QE (QZ _),Wc]
    rfl
   have ap:=wW (f:=aa 4) (o:=Xz.length+11) (L:=wL Xz.length j) rfl (by show la (Xz++gm s Xz.length j)[Xz.length]?=_;have:=li [];rw[SX] at this;rw[this];rfl) dc (li _) (by simp;omega)
   refine⟨_,_,_,.next,rfl,(aS sc).trans ((aS ap).trans rfl),.inl rfl,⟨_,_,rfl⟩,?_⟩
   show bk e N ((Xz++gm s Xz.length j++[AO.idict (xH s j)]).set Xz.length (AO.list (wL Xz.length j++[.ref (Xz.length+1+j+11)])))=_
   rw[QF,Q2 _ _ (QZ _),Wc]
   simp[gm,wL,Tn]) 30 0 _ _ (by decide) ⟨⟨none,none,rfl⟩,rfl⟩
 have h2:=v8 src h1
 subst q1 q2
 refine kG ?_
 rw[aS h2]
 rfl
end
noncomputable abbrev NZ:SF:=(ah (bQ 7 (aI cN (ac (aa 2) (ac (aq (aa 4) (ae (.int 3))) af)))) (ah (dM (lU (ac (aa 1) (ac (aa 4) af))) (eG [8,9]) (ah (bQ 7 (aI fz (ac (aa 7) (ac (aI eX (ac (aI cN (ac (aa 2) (ac (aa 9) af))) (ac (aI (b8 8) (ac (aa 0) (ac (aa 8) (ac (aa 6) af)))) af))) af)))) az)) (ah (bJ (ao (am mW (aI (b8 8) (ac (aa 0) (ac (aa 5) (ac (aa 6) af)))) (am (aP fun a b=>a==b) (aq (aa 7) (ae (.int 0))) (ae (.int 0))))) (ah (aW (ae (.bool false))) az) az) az)))
section
variable {e:En} {M:List Nd} {Xz:List AO} {s a b c k:Int} {T:Nat}
noncomputable abbrev iS(s:Int)(T:Nat)(a b c k:Int)(l:Sl):Sl:=some (.ref 1)::some (.ref 11)::some (pI s)::some (pI 3)::some (.dat (.list [.int a,.int b,.int c,.int k]))::some (pI (T:Nat))::l
noncomputable abbrev pt(s a b c k:Int)(w:Nat→Int):Int×Int:=pQ (pQ (pQ (be (hs s k)) (tQ (be (hs s a)) (be (w 4)))) (tQ (be (hs s b)) (be (w 5)))) (tQ (be (hs s c)) (be (w 7)))
theorem Nl(w:Nat→Int):(pt s a b c k w).1=0↔2*hs s k+hs s a*w 4+hs s b*w 5+hs s c*w 7=0:=by
 have v:=(((tm (hs s k)).pl (vZ (hs s a) (w 4))).pl (vZ (hs s b) (w 5))).pl (vZ (hs s c) (w 7))
 have h1:=v.is
 have h2:=v.pos
 constructor
 ·intro h
  rw[h] at h1
  rcases R4.mp h1.symm with q | q
  ·exact q
  ·lia
 ·intro h
  rw[h,Si] at h1
  have h1':4*(pt s a b c k w).1=0:=h1
  lia
theorem EL (o:OK s M) (h2:M.length≤1000) (hr:Xz[0]?=some (AO.list [pI 4,pI 5,pI 7])) (hw:Wd e M Xz w w4 w5 p) (ha:In 16 (hs s a)) (hb:In 16 (hs s b)) (hc:In 16 (hs s c)) (hk:In 16 (hs s k))
  (hT:Wv e M Xz w 8 T (.bool (decide ((pt s a b c k (cO w4 w5 p)).1=0)))) :
  ∃ l7 l8 l9,NZ (iS s T a b c k [some (.ref w),o7,o8,o9]) (bk e M Xz)=some (.next,iS s T a b c k [some (.ref w),l7,l8,l9],bk e M Xz):=by
 have hu:(bk e M Xz)[11]?=some (AO.list [pI 4,pI 5,pI 7]):=hr
 have sz:∀ {h:Int},In 16 h→Sz 16 2 (be h):=fun {h} q=>jL (by unfold In at q;exact kR.mpr (by assumption))
 have wb:=tS hw
 have Xx:=fun(h:Int) (q:In 16 h) (u:Nat)=>(sz q).ti (jL (wb u))
 have z0:=sz hk
 have z1:=z0.pl (Xx _ ha 4)
 have z2:=z1.pl (Xx _ hb 5)
 have smt:∀ {h:Int} (q:In 16 h) (u:Nat),Sm (tQ (be h) (be (cO w4 w5 p u))):=fun {h} q u=>(Xx h q u).sm (by decide) (by decide)
 have sm0:=z0.sm (by decide) (by decide)
 have sm1:=z1.sm (by decide) (by decide)
 have sm2:Sm _:=⟨by have:=z2.top;(have:=kR.mp (by assumption);exact zB),⟨z2.bot.1,by have:=z2.bot.2;exact RC (by assumption) (by decide)⟩⟩
 have h6:bQ 7 (aI cN (ac (aa 2) (ac (aq (aa 4) (ae (.int 3))) af))) (iS s T a b c k [some (.ref w),o7,o8,o9]) (bk e M Xz)=some (.next,iS s T a b c k [some (.ref w),some (.dat (Dh (hs s k))),o8,o9],bk e M Xz) :=
  dJ ((bO (ps:=[pI s,pI k]) rfl).trans (mq o.so))
 have turn:∀ {x:Int×Int} {u:Nat} {h:Int} {o8 o9:Option PV},tri u=true→Sm x→In 16 (hs s h) →
   (ah (bQ 7 (aI fz (ac (aa 7) (ac (aI eX (ac (aI cN (ac (aa 2) (ac (aa 9) af))) (ac (aI (b8 8) (ac (aa 0) (ac (aa 8) (ac (aa 6) af)))) af))) af)))) az) (iS s T a b c k [some (.ref w),some (.dat (Qp x)),some (pI (u:Nat)),some (pI h)]) (bk e M Xz)=some (.next,iS s T a b c k [some (.ref w),some (.dat (Qp (pQ x (tQ (be (hs s h)) (be (cO w4 w5 p u)))))),some (pI (u:Nat)),some (pI h)],bk e M Xz):=fun {x u h o8 o9} hu hx hh=>by
  have v1:aI cN (ac (aa 2) (ac (aa 9) af)) (iS s T a b c k [some (.ref w),some (.dat (Qp x)),some (pI (u:Nat)),some (pI h)]) (bk e M Xz)=some (.dat (Dh (hs s h)),bk e M Xz):=(bO rfl).trans (mq o.so)
  have v2:aI (b8 8) (ac (aa 0) (ac (aa 8) (ac (aa 6) af))) (iS s T a b c k [some (.ref w),some (.dat (Qp x)),some (pI (u:Nat)),some (pI h)]) (bk e M Xz)=some (.dat (Dh (cO w4 w5 p u)),bk e M Xz):=(bO (ps:=[.ref 1,pI (u:Nat),.ref w]) rfl).trans (kQ (k:=6) o h2 hw hu)
  have v3:=(bO (F:=eX) (cC v1 (cP v2))).trans (Ar ((sz hh).sm (by decide) (by decide)) ((jL (wb u)).sm (by decide) (by decide)))
  have v4:=(bO (F:=fz) (cC (f:=aa 7) (p:=.dat (Qp x)) (XA:=bk e M Xz) rfl (cP v3))).trans (BM hx (smt hh u))
  exact(aS (dJ v4)).trans rfl
 have zc:∀ (j u:Nat) (h:Int),(uL a b c)[j]?=some (u,h)→iG (.ref 11) (.dat (.list [.int a,.int b,.int c,.int k])) (bk e M Xz) j=some (some (.dat (.tuple [.int (u:Nat),.int h]))):=fun j u h hj=>by
  have hj3:j=0∨j=1∨j=2:=by
   have:=(Qt.mp hj).1
   simp at this
   lia
  unfold iG rj
  dsimp only
  rw[hu]
  rcases hj3 with rfl | rfl | rfl<;>cases hj<;>rfl
 have ze:iG (.ref 11) (.dat (.list [.int a,.int b,.int c,.int k])) (bk e M Xz) 3=some none:=by
  unfold iG rj
  dsimp only
  rw[hu]
  rfl
 have zs:lU (ac (aa 1) (ac (aa 4) af)) (iS s T a b c k [some (.ref w),some (.dat (Dh (hs s k))),o8,o9]) (bk e M Xz)=some (iG (.ref 11) (.dat (.list [.int a,.int b,.int c,.int k])),3,bk e M Xz):=by
  show(oK (bk e M Xz) (.ref 11)).bind _=_
  unfold oK
  dsimp only
  rw[hu]
  rfl
 have lp:=v8 (g:=eG [8,9]) (body:=(ah (bQ 7 (aI fz (ac (aa 7) (ac (aI eX (ac (aI cN (ac (aa 2) (ac (aa 9) af))) (ac (aI (b8 8) (ac (aa 0) (ac (aa 8) (ac (aa 6) af)))) af))) af)))) az)) zs (kK (zc 0 4 a rfl) rfl (turn (o8:=none) (o9:=none) (u:=4) rfl sm0 ha) (kK (zc 1 5 b rfl) rfl (turn (o8:=none) (o9:=none) (u:=5) rfl sm1 hb) (kK (zc 2 7 c rfl) rfl (turn (o8:=none) (o9:=none) (u:=7) rfl sm2 hc) (w8 ze))))
 refine⟨some (.dat (Qp (pt s a b c k (cO w4 w5 p)))),some (pI (7:Nat)),some (pI c),?_⟩
 refine(aS h6).trans ((aS lp).trans ?_)
 have t1:aI (b8 8) (ac (aa 0) (ac (aa 5) (ac (aa 6) af))) (iS s T a b c k [some (.ref w),some (.dat (Qp (pt s a b c k (cO w4 w5 p)))),some (pI (7:Nat)),some (pI c)]) (bk e M Xz)=some (.dat (.bool (decide ((pt s a b c k (cO w4 w5 p)).1=0))),bk e M Xz):=(bO (ps:=[.ref 1,pI (T:Nat),.ref w]) rfl).trans hT
 have t2:am (aP fun a b=>a==b) (aq (aa 7) (ae (.int 0))) (ae (.int 0)) (iS s T a b c k [some (.ref w),some (.dat (Qp (pt s a b c k (cO w4 w5 p)))),some (pI (7:Nat)),some (pI c)]) (bk e M Xz)=some (.dat (.bool (decide ((pt s a b c k (cO w4 w5 p)).1=0))),bk e M Xz) :=
  aV (a:=.int (pt s a b c k (cO w4 w5 p)).1) (b:=.int 0) rfl rfl (by show some (QT ((pt s a b c k (cO w4 w5 p)).1==0))=_;congr 2)
 have gn:∀ q:Bool,mW (.bool q) (.bool q)=some (.bool false):=fun q=>by cases q<;>rfl
 have t3:=bB (aV (G:=mW) t1 t2 (gn _))
 refine(aS (cr t3)).trans ?_
 rfl
noncomputable abbrev jw(s:Int)(j:Nat):Nat→Int:=cO (hs s ((j:Int) % 5 - 2)) (hs s ((j:Int) / 5 % 3 - 1)) (decide ((j:Int) / 15=1))
theorem Nn(hj:j<30):Wd e M (Xz++gm s Xz.length 30) (Xz.length+1+j+11) (hs s ((j:Int) % 5 - 2)) (hs s ((j:Int) / 5 % 3 - 1)) (decide ((j:Int) / 15=1))∧(s=1→hs s ((j:Int) % 5 - 2) % 2=0∧hs s ((j:Int) / 5 % 3 - 1) % 2=0):=by
 have hd:(bk e M (Xz++gm s Xz.length 30))[Xz.length+1+j+11]?=some (AO.idict (xH s j)):=by
  show(Xz++gm s Xz.length 30)[Xz.length+1+j]?=_
  rw[UB,QE (Ri ..),Nat.add_sub_cancel_left,Xm]
  simp[gm,hj]
 have hin:∀ h:Int,h.natAbs≤2→(hs s h).natAbs≤4:=fun h q=>by unfold hs;split;exact(RX 2 h).symm▸VL 2 q;exact QH q (by decide)
 have b:((j:Int) % 5 - 2).natAbs≤2∧((j:Int) / 5 % 3 - 1).natAbs≤2:=⟨kR.mpr ⟨by omega,by omega⟩,kR.mpr ⟨by omega,by omega⟩⟩
 exact⟨⟨⟨_,hd,rfl,rfl,rfl⟩,hin _ b.1,hin _ b.2⟩,fun q=>by unfold hs;rw[if_pos q,if_pos q];exact⟨V0 ..,V0 ..⟩⟩
theorem IS(hm:m≠0)(ea:hs s a=m*x)(eb:hs s b=m*y)(ec:hs s c=m*t)(ek:hs s k=m*kk)(wf:Nat→Int):(x*wf 4+y*wf 5+t*wf 7+2*kk=0)↔((pt s a b c k wf).1=0):=by
 rw[Nl,ea,eb,ec,ek,show 2*(m*kk)+m*x*wf 4+m*y*wf 5+m*t*wf 7=m*(x*wf 4+y*wf 5+t*wf 7+2*kk) by
  rw[TZ,TZ,TZ,QK,QK,QK,Rx m 2 kk];generalize m*(2*kk)=u;generalize m*(x*wf 4)=v;generalize m*(y*wf 5)=v';clear ea eb ec ek;omega]
 exact⟨fun h=>by rw[h,Wa],fun h=>(R4.mp h).resolve_left hm⟩
theorem IT (o:OK s M) (h2:M.length≤1000) (hr:Xz[0]?=some (AO.list [pI 4,pI 5,pI 7])) (ha:In 16 (hs s a)) (hb:In 16 (hs s b)) (hc:In 16 (hs s c)) (hk:In 16 (hs s k)) (hm:m≠0)
  (ea:hs s a=m*x) (eb:hs s b=m*y) (ec:hs s c=m*t) (ek:hs s k=m*kk)
  (hT:∀ (R:List AO) (w:Nat) (w4 w5:Int) (p:Bool),Wd e M R w w4 w5 p→(s=1→w4 % 2=0∧w5 % 2=0)→Wv e M R w 8 T (.bool (decide (x*cO w4 w5 p 4+y*cO w4 w5 p 5+t*cO w4 w5 p 7+2*kk=0)))) :
  iJ [.ref 1,.ref 11,pI s,pI 3,.dat (.list [.int a,.int b,.int c,.int k]),pI (T:Nat)] (bk e M Xz)=some (.dat (.bool true),bk e M (Xz++gm s Xz.length 30)):=by
 revert e M Xz s a b c k T m x y t kk
 refine @jV _ _ _ _ _ _ _ _ nI ?_
 generalize q1 _=e,q2 _=M,q3 _=Xz,q4 _=s,q5 _=a,q6 _=b,qe _=c
 refine @jV _ _ _ _ _ _ _ _ nI ?_
 generalize q1 _=k,q2 _=T,q3 _=m,q4 _=x,q5 _=y,q6 _=t,qe _=kk
 intro o h2 hr ha hb hc hk hm ea eb ec ek hT
 have r0:0<Xz.length:=(Qt.mp hr).1
 show aY (mh (iS s T a b c k [none,none,none,none]) (bk e M Xz))=_
 unfold mh
 refine cps fun G kG=>?_
 have hu:(Xz++gm s Xz.length 30)[0]?=some (AO.list [pI 4,pI 5,pI 7]):=by
  rw[QD r0]
  exact hr
 have li:(bk e M (Xz++gm s Xz.length 30))[Xz.length+11]?=some (AO.list (wL Xz.length 30)):=by
  show(Xz++gm s Xz.length 30)[Xz.length]?=_
  rw[QE (QZ _),Wc]
  rfl
 have src:cF (aI ly (ac (aa 0) (ac (aa 1) (ac (aa 2) (ac (aa 3) af))))) (iS s T a b c k [none,none,none,none]) (bk e M Xz)=some (jA (Xz.length+11),30,bk e M (Xz++gm s Xz.length 30)):=by
  unfold cF
  rw[(bO (ps:=[.ref 1,.ref 11,pI s,pI 3]) rfl).trans (Gd o.so hr)]
  dsimp only[pP,pD]
  rw[li]
  simp
 obtain⟨Yg,XK,h1,⟨l6,l7,l8,l9,q1⟩,q2⟩:=oi (XR:=jA (Xz.length+11)) (g:=bZ 6) (body:=NZ) (n:=30) (fun j=>.ref (Xz.length+1+j+11)) (fun j ρ Xx=>(∃ l6 l7 l8 l9,ρ=iS s T a b c k [l6,l7,l8,l9])∧Xx=bk e M (Xz++gm s Xz.length 30))
  (fun j ρ Xx hj z=>bA z fun _ q2=>by
   rw[q2]
   unfold jA
   rw[li]
   simp[wL,hj]) (fun ρ Xx z=>bA z fun _ q2=>by
   rw[q2]
   unfold jA
   rw[li]
   simp[wL]) (fun j ρ Xx hj z=>by
   obtain⟨⟨l6,l7,l8,l9,q1⟩,q2⟩:=z
   subst q1 q2
   have W:=Nn (e:=e) (M:=M) (Xz:=Xz) (s:=s) hj
   have hw:=hT _ _ _ _ _ W.1 W.2
   rw[decide_eq_decide.mpr (IS hm ea eb ec ek (jw s j))] at hw
   refine GD (EL (o7:=l7) (o8:=l8) (o9:=l9) o h2 hu W.1 ha hb hc hk hw) fun a7 a8 a9 ow=>?_
   exact⟨_,_,_,.next,rfl,ow,.inl rfl,⟨_,_,_,_,rfl⟩,rfl⟩) 30 0 _ _ rfl ⟨⟨none,none,none,none,rfl⟩,rfl⟩
 have h3:=v8 src h1
 subst q1 q2
 refine kG ?_
 rw[aS h3]
 rfl
end
theorem EM {P:Nat→PV} (I:Sl→Prop) (f:Nat→QC) (hc:∀ j,j<n→XR Xx j=some (some (P j))) (he:XR Xx n=some none)
  (h:∀ j,j<n→∀ ρ,I ρ→∃ X6,g (P j) ρ=some X6∧I X6∧F X6 Xx=some (.dat (f j),Xx)) (hI:I ρ) (hl:acc.length+n≤900) :
  ∃ Yg,eT XR g dn (cq F) n 0 ρ (acc.map .dat) Xx=some (Yg,(acc++(QA n).map f).map .dat,Xx)∧I Yg:=by
 obtain⟨Yg,XN,XK,h1,h2,h3,h4⟩:=mj (XR:=XR) (g:=g) (t:=dn) (F:=cq F) (n:=n) P (fun j ρ a s=>I ρ∧a=(acc++(QA j).map f).map .dat∧s=Xx)
  (fun j ρ a s hj q=>by rw[q.2.2];exact hc j hj) (fun ρ a s q=>by rw[q.2.2];exact he)
  (fun j ρ a s hj q=>by
   refine iL (q) fun q1 XW XX=>?_
   subst XW XX
   refine d9 (h j hj ρ q1) fun X6 a1 a2 a3=>?_
   refine⟨X6,a1,.inr ⟨s,X6,_,s,rfl,qu a3 (by simp;lia),a2,?_,rfl⟩⟩
   simp[Tn]) n 0 ρ (acc.map .dat) Xx (by rfl) ⟨hI,by simp,rfl⟩
 subst h3 h4
 exact⟨Yg,h1,h2⟩
theorem Ax{f:Nat→List α}(hf:∀ i,(f i).length=n):∀ j,((QA j).flatMap f).length=j*n:=by
 intro a_
 induction a_ with
 | zero =>
  simp
 | succ j ih =>
  rw[Tn,VM,RR,ih,We,Wy,SX,hf,Nat.succ_mul]
noncomputable def qw(a b:Int):List Int:=(QA 13).flatMap fun i:Nat=>(QA 13).map fun j:Nat=>((i:Int) - 6)*a+((j:Int) - 6)*b
noncomputable def mr(a b:Int):List Int:=(qw a b).filter fun x=>decide (0<x)
noncomputable def eB(s a b k:Int):Str:=if a=0∧b=0 then(if k=0 then "always" else "never") else if s=1∧k % kC (mr a b)≠0 then "never" else "at times"
section
variable {s a b c k:Int} {Xx:St}
noncomputable abbrev bh(a b c k:Int):QC:=.list [.int a,.int b,.int c,.int k]
theorem LV(ha:In 100 a)(hb:In 100 b)(hρ:ρ=[some (.dat (bh a b c k)),some (pI s),none]):
  dN 2 (kb (ac (lO lR (ae (.int 6))) (ac (ae (.int 7)) af))) 2 [0] (bZ 0) dn (oH (kb (ac (lO lR (ae (.int 6))) (ac (ae (.int 7)) af))) (bZ 1) dn (cq (am iq (am bR (aa 0) (aq (aa 2) (ae (.int 0)))) (am bR (aa 1) (aq (aa 2) (ae (.int 1))))))) ρ Xx=some (.next,[some (.dat (bh a b c k)),some (pI s),some (.dat (.list ((qw a b).map .int)))],Xx):=by
 revert s a b c k Xx ρ
 refine @jV _ _ _ _ _ _ _ _ nI ?_
 generalize q1 _=s,q2 _=a,q3 _=b,q4 _=c,q5 _=k,q6 _=Xx,qe _=ρ
 intro ha hb hρ
 subst hρ
 have rg:∀ ρ:Sl,kb (ac (lO lR (ae (.int 6))) (ac (ae (.int 7)) af)) ρ Xx=some (e6 (-6) 13,13,Xx):=fun ρ=>rfl
 have hcur:∀ j,j<13→e6 (-6) 13 Xx j=some (some (pI (-6+(j:Int)))):=fun j hj=>by simp[e6,hj]
 have hend:e6 (-6) 13 Xx 13=some none:=by simp[e6]
 have inner:∀ (i:Nat) (o:Option PV) (acc:List QC),i<13→acc.length≤800→∃ o',oH (kb (ac (lO lR (ae (.int 6))) (ac (ae (.int 7)) af))) (bZ 1) dn (cq (am iq (am bR (aa 0) (aq (aa 2) (ae (.int 0)))) (am bR (aa 1) (aq (aa 2) (ae (.int 1)))))) [some (pI (-6+(i:Int))),o,some (.dat (bh a b c k))] (acc.map .dat) Xx=some ([some (pI (-6+(i:Int))),o',some (.dat (bh a b c k))],(acc++(QA 13).map fun j:Nat=>QY ((-6+(i:Int))*a+(-6+(j:Int))*b)).map .dat,Xx):=fun i o acc hi hl=>by
  obtain⟨Yg,h1,o',h2⟩:=EM (XR:=e6 (-6) 13) (g:=bZ 1) (F:=am iq (am bR (aa 0) (aq (aa 2) (ae (.int 0)))) (am bR (aa 1) (aq (aa 2) (ae (.int 1))))) (Xx:=Xx) (n:=13) (P:=fun j=>pI (-6+(j:Int))) (fun ρ=>∃ o,ρ=[some (pI (-6+(i:Int))),o,some (.dat (bh a b c k))]) (fun j=>.int ((-6+(i:Int))*a+(-6+(j:Int))*b)) hcur hend (fun j hj ρ z=>bM z fun o q=>by
   subst q
   refine⟨_,rfl,⟨_,rfl⟩,aV (aV (a:=.int (-6+(i:Int))) (b:=.int a) rfl rfl (dP (by lia) (by lia))) (aV (a:=.int (-6+(j:Int))) (b:=.int b) rfl rfl (dP (by lia) (by lia))) rfl⟩) (ρ:=[some (pI (-6+(i:Int))),o,some (.dat (bh a b c k))]) ⟨o,rfl⟩ (acc:=acc) (by lia)
  subst h2
  refine⟨o',?_⟩
  unfold oH
  rw[rg]
  exact h1
 obtain⟨Yg,XN,XK,h1,⟨o1,o2,q1⟩,q2,q3⟩:=mj (XR:=e6 (-6) 13) (g:=bZ 0) (t:=dn) (F:=oH (kb (ac (lO lR (ae (.int 6))) (ac (ae (.int 7)) af))) (bZ 1) dn (cq (am iq (am bR (aa 0) (aq (aa 2) (ae (.int 0)))) (am bR (aa 1) (aq (aa 2) (ae (.int 1))))))) (n:=13) (fun j=>pI (-6+(j:Int)))
  (fun j ρ acc s'=>(∃ o1 o2,ρ=[o1,o2,some (.dat (bh a b c k))])∧acc=((QA j).flatMap fun i:Nat=>(QA 13).map fun j:Nat=>QY ((-6+(i:Int))*a+(-6+(j:Int))*b)).map .dat∧s'=Xx)
  (fun j ρ acc s' hj q=>by rw[q.2.2];exact hcur j hj) (fun ρ acc s' q=>by rw[q.2.2];exact hend)
  (fun j ρ acc s' hj z=>by
   obtain⟨⟨o1,o2,q1⟩,q2,q3⟩:=z
   subst q1 q2 q3
   have XQ:((QA j).flatMap fun i:Nat=>(QA 13).map fun j:Nat=>QY ((-6+(i:Int))*a+(-6+(j:Int))*b)).length=j*13:=Ax (fun i=>by simp) j
   refine bM (inner j o2 ((QA j).flatMap fun i:Nat=>(QA 13).map fun j:Nat=>QY ((-6+(i:Int))*a+(-6+(j:Int))*b)) hj (by lia)) fun o' q=>?_
   refine⟨_,rfl,.inr ⟨s',_,_,s',rfl,q,⟨_,_,rfl⟩,?_,rfl⟩⟩
   rw[show QA (j+1)=QA j++[j] from Tn,VM,We,Wy,SX])
  13 0 [none,none,some (.dat (bh a b c k))] [] Xx rfl ⟨⟨none,none,rfl⟩,rfl,rfl⟩
 subst q2 q3
 unfold dN
 rw[rg]
 dsimp only[p3,QQ]
 rw[show ib 2 [0] [some (.dat (bh a b c k)),some (pI s),none]=[none,none,some (.dat (bh a b c k))] from rfl,h1]
 dsimp only
 rw[kH]
 dsimp only
 have e1:((QA 13).flatMap fun i:Nat=>(QA 13).map fun j:Nat=>QY ((-6+(i:Int))*a+(-6+(j:Int))*b))=(qw a b).map .int:=by
  unfold qw
  rw[List.map_flatMap]
  refine congrArg (fun f=>(QA 13).flatMap f) (funext fun i=>?_)
  rw[Ra]
  refine Sg fun j _=>?_
  show QY _=QY _
  rw[show(-6+(i:Int))=(i:Int) - 6 from by lia,show(-6+(j:Int))=(j:Int) - 6 from by lia]
 rw[e1,if_pos (by
  have:(qw a b).length=13*13:=Ax (fun i=>by simp) 13
  simp[small,this])]
 rfl
theorem LW{l:List Int}(hl:l.length≤900)(h:ρ[2]?=some (some (.dat (.list (l.map .int))))):fV (cF (aa 2)) 1 [] (bZ 0) (ao (am (aP fun a b=>decide (b<a)) (aa 0) (ae (.int 0)))) (cq (aa 0)) ρ Xx=some (.dat (.list ((l.filter fun x=>decide (0<x)).map .int)),Xx):=by
 revert Xx ρ l
 refine @kT _ _ _ _ nI ?_
 generalize q1 _=Xx,q2 _=ρ,qe _=l
 intro hl h
 obtain⟨Yg,XN,XK,h1,⟨o,q1⟩,q2,q3⟩:=mj (XR:=cA (l.map .int)) (g:=bZ 0) (t:=ao (am (aP fun a b=>decide (b<a)) (aa 0) (ae (.int 0)))) (F:=cq (aa 0)) (n:=l.length) (fun j=>pI (l[j]?.getD 0))
  (fun j ρ acc s'=>(∃ o,ρ=[o])∧acc=(((l.take j).filter fun x=>decide (0<x)).map .int).map .dat∧s'=Xx)
  (fun j ρ acc s' hj _=>by simp[cA,hj]) (fun ρ acc s' _=>by simp[cA])
  (fun j ρ acc s' hj z=>by
   obtain⟨⟨o,q1⟩,q2,q3⟩:=z
   subst q1 q2 q3
   have e1:l[j]?.getD 0=l[j]:=by rw[SL hj];rfl
   rw[e1,← Ro hj,Uo,RZ,RZ]
   generalize l[j]=x
   refine⟨[some (pI x)],rfl,?_⟩
   have t1:ao (am (aP fun a b=>decide (b<a)) (aa 0) (ae (.int 0))) [some (pI x)] s'=some (decide (0<x),s'):=rfl
   have hfl:((l.take j).filter fun x=>decide (0<x)).length≤900:=by
    have:=Q6 (fun x:Int=>decide (0<x)) (l.take j)
    have:=List.length_take_le j l
    have:(l.take j).length≤l.length:=by simp;lia
    lia
   by_cases hx:0<x
   ·rw[decide_eq_true hx] at t1
    refine .inr ⟨s',_,_,s',t1,qu rfl (by simp only[Qs];exact nC),⟨_,rfl⟩,?_,rfl⟩
    simp[hx]
   ·rw[decide_eq_false hx] at t1
    refine .inl ⟨s',t1,⟨_,rfl⟩,?_,rfl⟩
    simp[hx]) l.length 0 [none] [] Xx (by rfl) ⟨⟨none,rfl⟩,rfl,rfl⟩
 rw[Sn] at q2
 subst q2 q3
 unfold fV
 rw[gB (f:=aa 2) (xs:=l.map .int) (.inl (by unfold aa;rw[h])) (by simp;exact nA),Qs]
 dsimp only[p3,QQ]
 rw[show ib 1 [] ρ=[none] from rfl,h1]
 dsimp only
 rw[kH]
 dsimp only
 rw[if_pos (by
  have:=Q6 (fun x:Int=>decide (0<x)) l
  simp only[small,Qs,decide_eq_true_eq]
  exact zf)]
theorem Da(h1:f ρ Xx=some (.dat d,Xx))(h2:G [d]=some r):fh G (ac f af) ρ Xx=some (.dat r,Xx):=by
 unfold fh
 rw[cP h1]
 dsimp only[pP,QQ,kz,lP,RQ]
 rw[h2]
 rfl
theorem LX(h:l≠[]):tG [.list (l.map .int)]=some (.int (kC l)):=by
 unfold tG
 dsimp only[QQ]
 rw[rH]
 cases l with
 | nil=>exact absurd rfl h
 | cons x l=>rfl
theorem LY(x:Int):aP (fun a b=>a !=b) (.int x) (.int 0)=some (.bool (decide (x≠0))):=by
 show some (QT (x !=0))=_
 congr 2
 by_cases q:x=0<;>simp[q]
theorem Ge:∀ l:List Int,l≠[]→(∀ x∈l,0<x)→0<kC l:=fun l h1 h2=>h2 _ (xv l h1).1
theorem tn(hss:s=1∨s=2)(ha:In 100 a)(hb:In 100 b)(XU:(a=0∧b=0)∨mr a b≠[]):eK [.dat (bh a b c k),pI s] Xx=some (.dat (.str (eB s a b k)),Xx):=by
 revert s a b c k Xx
 refine @u4 _ _ _ _ _ _ _ nI ?_
 generalize q1 _=s,q2 _=a,q3 _=b,q4 _=c,q5 _=k,qe _=Xx
 intro hss ha hb XU
 show aY (nK [some (.dat (bh a b c k)),some (pI s),none] Xx)=_
 unfold nK
 have z:∀ (i:Nat) (v:Int) (l:Sl),[a,b,c,k][i]?=some v→ao (am (aP fun a b=>a==b) (aq (aa 0) (ae (.int (i:Nat)))) (ae (.int 0))) (some (.dat (bh a b c k))::l) Xx=some (decide (v=0),Xx):=fun i v l hv=>by
  have hi:i<4:=by have:=(Qt.mp hv).1;simpa using this
  refine bB (aV (a:=.int v) (b:=.int 0) (gW (p:=.dat (bh a b c k)) (k:=(i:Nat)) rfl rfl ?_) rfl (by show some (QT (v==0))=_;congr 2))
  unfold iW
  rw[if_pos (by lia)]
  have h4:i=0∨i=1∨i=2∨i=3:=by lia
  rcases h4 with rfl | rfl | rfl | rfl<;>cases hv<;>rfl
 have z0:ao (am (aP fun a b=>a==b) (aq (aa 0) (ae (.int 0))) (ae (.int 0))) [some (.dat (bh a b c k)),some (pI s),none] Xx=some (decide (a=0),Xx):=z 0 a [some (pI s),none] rfl
 have z1:ao (am (aP fun a b=>a==b) (aq (aa 0) (ae (.int 1))) (ae (.int 0))) [some (.dat (bh a b c k)),some (pI s),none] Xx=some (decide (b=0),Xx):=z 1 b [some (pI s),none] rfl
 have z3:ao (am (aP fun a b=>a==b) (aq (aa 0) (ae (.int 3))) (ae (.int 0))) [some (.dat (bh a b c k)),some (pI s),none] Xx=some (decide (k=0),Xx):=z 3 k [some (pI s),none] rfl
 unfold eB
 by_cases hab:a=0∧b=0
 ·rw[if_pos hab]
  rw[decide_eq_true hab.1] at z0
  rw[decide_eq_true hab.2] at z1
  by_cases hk:k=0
  ·rw[decide_eq_true hk] at z3
   rw[if_pos hk,bx ((eJ ((i8 z0).trans z1)).trans (bx (cp ((ml z3).trans rfl))))]
   rfl
  ·rw[decide_eq_false hk] at z3
   rw[if_neg hk,bx ((eJ ((i8 z0).trans z1)).trans (bx (cp ((j4 z3).trans rfl))))]
   rfl
 ·rw[if_neg hab]
  have hpos:mr a b≠[]:=XU.resolve_left hab
  have tf:gq (ao (am (aP fun a b=>a==b) (aq (aa 0) (ae (.int 0))) (ae (.int 0)))) (ao (am (aP fun a b=>a==b) (aq (aa 0) (ae (.int 1))) (ae (.int 0)))) [some (.dat (bh a b c k)),some (pI s),none] Xx=some (false,Xx):=by
   by_cases h0:a=0
   ·rw[decide_eq_true h0] at z0
    have h1:¬ b=0:=fun q=>hab ⟨h0,q⟩
    rw[decide_eq_false h1] at z1
    exact(i8 z0).trans z1
   ·rw[decide_eq_false h0] at z0
    exact my z0
  rw[aS (cr tf)]
  rcases hss with rfl | rfl
  ·have t1:ao (am (aP fun a b=>a==b) (aa 1) (ae (.int 1))) [some (.dat (bh a b c k)),some (pI 1),none] Xx=some (true,Xx):=rfl
   have sv:=LV (s:=1) (Xx:=Xx) (c:=c) (k:=k) ha hb rfl
   have XQ:(qw a b).length=13*13:=Ax (fun i=>by simp) 13
   have fv:=LW (Xx:=Xx) (l:=qw a b) (ρ:=[some (.dat (bh a b c k)),some (pI 1),some (.dat (.list ((qw a b).map .int)))]) (by lia) rfl
   have mv:fh tG (ac (fV (cF (aa 2)) 1 [] (bZ 0) (ao (am (aP fun a b=>decide (b<a)) (aa 0) (ae (.int 0)))) (cq (aa 0))) af) [some (.dat (bh a b c k)),some (pI 1),some (.dat (.list ((qw a b).map .int)))] Xx=some (pI (kC (mr a b)),Xx):=by
    exact Da fv (LX hpos)
   have mp:0<kC (mr a b):=Ge _ hpos fun x hx=>by simpa using (RH.mp hx).2
   generalize kC (mr a b)=mz at *
   have t2:ao (am (aP fun a b=>a !=b) (am gO (aq (aa 0) (ae (.int 3))) (fh tG (ac (fV (cF (aa 2)) 1 [] (bZ 0) (ao (am (aP fun a b=>decide (b<a)) (aa 0) (ae (.int 0)))) (cq (aa 0))) af))) (ae (.int 0))) [some (.dat (bh a b c k)),some (pI 1),some (.dat (.list ((qw a b).map .int)))] Xx=some (decide (k % mz≠0),Xx) :=
    bB (aV (b:=.int 0) (aV (a:=.int k) rfl mv ((m9 (by lia)).trans (by rw[RF _ (by lia)]))) rfl (LY _))
   by_cases hm:k % mz≠0
   ·rw[decide_eq_true hm] at t2
    rw[if_pos ⟨rfl,hm⟩,bx ((eJ t1).trans ((aS sv).trans (bx ((eJ t2).trans (bx rfl)))))]
    rfl
   ·rw[decide_eq_false hm] at t2
    rw[if_neg (fun q=>hm q.2),aS ((eJ t1).trans ((aS sv).trans ((aS (cr t2)).trans rfl)))]
    rfl
  ·have t1:ao (am (aP fun a b=>a==b) (aa 1) (ae (.int 1))) [some (.dat (bh a b c k)),some (pI 2),none] Xx=some (false,Xx):=rfl
   rw[if_neg (by simp),aS (cr t1)]
   rfl
end
theorem Db {P:Nat→PV} (I:Sl→Prop) (q:Nat→Bool) (f:Nat→QC) (hc:∀ j,j<n→XR Xx j=some (some (P j))) (he:XR Xx n=some none)
  (h:∀ j,j<n→∀ ρ,I ρ→∃ X6,g (P j) ρ=some X6∧I X6∧t X6 Xx=some (q j,Xx)∧F X6 Xx=some (.dat (f j),Xx)) (hI:I ρ) (hl:acc.length+n≤900) :
  ∃ Yg,eT XR g t (cq F) n 0 ρ (acc.map .dat) Xx=some (Yg,(acc++((QA n).filter q).map f).map .dat,Xx)∧I Yg:=by
 refine cps fun G kG=>?_
 obtain⟨Yg,XN,XK,h1,h2,h3,h4⟩:=mj (XR:=XR) (g:=g) (t:=t) (F:=cq F) (n:=n) P (fun j ρ a s=>I ρ∧a=(acc++((QA j).filter q).map f).map .dat∧s=Xx)
  (fun j ρ a s hj q=>by rw[q.2.2];exact hc j hj) (fun ρ a s q=>by rw[q.2.2];exact he)
  (fun j ρ a s hj w=>by
   refine iL (w) fun q1 XW XX=>?_
   subst XW XX
   refine GB (h j hj ρ q1) fun X6 a1 a2 a3 a4=>?_
   have XQ:((QA j).filter q).length≤j:=by
    have:=Q6 q (QA j)
    simpa using this
   rw[show QA (j+1)=QA j++[j] from Tn,Uo]
   refine⟨X6,a1,?_⟩
   cases hq:q j with
   | true =>
    rw[hq] at a3
    refine .inr ⟨s,X6,_,s,a3,qu a4 (by simp only[Qs,RR];lia),a2,?_,rfl⟩
    simp[hq]
   | false =>
    rw[hq] at a3
    exact .inl ⟨s,a3,a2,by simp[hq],rfl⟩) n 0 ρ (acc.map .dat) Xx (by rfl) ⟨hI,by simp,rfl⟩
 subst h3 h4
 refine kG ?_
 exact⟨Yg,h1,h2⟩
noncomputable def ix(j:Nat):Nat:=if j=0 then 0 else if j=1 then 1 else 3
noncomputable def rv(a b k:Int)(j:Nat):Int:=if j=0 then a else if j=1 then b else k
noncomputable def n9(a b k a' b' k':Int):Bool:=decide (a*b'=b*a')&&decide (a*k'=k*a')&&decide (b*k'=k*b')
noncomputable def Dc(s a b k a' b' k':Int):Bool:=if eB s a b k=("at times":Str)∧eB s a' b' k'=("at times":Str) then n9 a b k a' b' k' else decide (eB s a b k=eB s a' b' k')
section
variable {s a b c k a' b' c' k':Int} {Xx:St}
theorem wa:Qv (.str "always")=true:=by decide +kernel
theorem xI:Qv (.str "never")=true:=by decide +kernel
theorem EO:Qv (.str "at times")=true:=by decide +kernel
theorem Dd(s a b k:Int):eB s a b k=("always":Str)∨eB s a b k=("never":Str)∨eB s a b k=("at times":Str):=by
 unfold eB
 split
 ·split
  ·exact .inl rfl
  ·exact .inr (.inl rfl)
 ·split
  ·exact .inr (.inl rfl)
  ·exact .inr (.inr rfl)
theorem uZ(s a b k:Int):Qv (.str (eB s a b k))=true:=by
 rcases Dd s a b k with h | h | h<;>rw[h]<;>first | exact wa | exact xI | exact EO
theorem yp(hj:j<3)(h1:ρ[i]?=some (some (.dat (bh a b c k))))(h2:ρ[m]?=some (some (pI (ix j:Nat)))):aq (aa i) (aa m) ρ Xx=some (pI (rv a b k j),Xx):=by
 refine gW (p:=.dat (bh a b c k)) (k:=(ix j:Nat)) (by unfold aa;rw[h1]) (by unfold aa;rw[h2]) ?_
 have h3:j=0∨j=1∨j=2:=by lia
 rcases h3 with rfl | rfl | rfl<;>rfl
theorem BR(x y:List α):(x++y).isEmpty=(x.isEmpty&&y.isEmpty):=by cases x<;>simp
theorem IU:∀ l:List QC,Rc l []=l.isEmpty:=by
 intro a_
 induction a_ with
 | nil =>
  simp[Rc]
 | cons a l ih =>
  simp[Rc]
noncomputable abbrev cT:TF:=ao (am (aP fun a b=>a !=b) (am bR (aq (aa 3) (aa 0)) (aq (aa 2) (aa 1))) (am bR (aq (aa 3) (aa 1)) (aq (aa 2) (aa 0))))
noncomputable abbrev iT:IF:=cF (bp (ac (ae (.int 0)) (ac (ae (.int 1)) (ac (ae (.int 3)) af))))
theorem IV(hb:In 100 a∧In 100 b∧In 100 k)(hb':In 100 a'∧In 100 b'∧In 100 k')(hρ:ib 2 [1,0] ρ=[none,none,some (.dat (bh a' b' c' k')),some (.dat (bh a b c k))]):
  ∃ l:List QC,fV iT 2 [1,0] (bZ 0) dn (oH iT (bZ 1) cT (cq (ae (.int 1)))) ρ Xx=some (.dat (.list l),Xx)∧l.isEmpty=n9 a b k a' b' k'∧(∀ x∈l,x=.int 1)∧l.length≤9:=by
 revert a b c k a' b' c' k' Xx ρ
 refine @si _ _ _ _ _ _ _ _ _ _ _ nI ?_
 generalize q1 _=a,q2 _=b,q3 _=c,q4 _=k,q5 _=a',q6 _=b',q7 _=c',q8 _=k',q9 _=Xx,qe _=ρ
 intro hb hb' hρ
 refine cps fun G kG=>?_
 have rg:∀ ρ:Sl,iT ρ Xx=some (cA [.int 0,.int 1,.int 3],3,Xx):=fun ρ=>rfl
 have hcur:∀ j,j<3→cA [.int 0,.int 1,.int 3] Xx j=some (some (pI (ix j:Nat))):=fun j hj=>by
  have h3:j=0∨j=1∨j=2:=by lia
  rcases h3 with rfl | rfl | rfl<;>rfl
 have hend:cA [.int 0,.int 1,.int 3] Xx 3=some none:=rfl
 let q:Nat→Nat→Bool:=fun i j=>decide (rv a b k i*rv a' b' k' j≠rv a b k j*rv a' b' k' i)
 have rb:∀ i,In 100 (rv a b k i):=fun i=>by unfold rv;split;exact hb.1;split;exact hb.2.1;exact hb.2.2
 have rb':∀ i,In 100 (rv a' b' k' i):=fun i=>by unfold rv;split;exact hb'.1;split;exact hb'.2.1;exact hb'.2.2
 have inner:∀ (i:Nat) (o:Option PV) (acc:List QC),i<3→acc.length≤800→∃ o',oH iT (bZ 1) cT (cq (ae (.int 1))) [some (pI (ix i:Nat)),o,some (.dat (bh a' b' c' k')),some (.dat (bh a b c k))] (acc.map .dat) Xx=some ([some (pI (ix i:Nat)),o',some (.dat (bh a' b' c' k')),some (.dat (bh a b c k))],(acc++((QA 3).filter (q i)).map fun _=>QY 1).map .dat,Xx):=fun i o acc hi hl=>by
  obtain⟨Yg,h1,o',h2⟩:=Db (XR:=cA [.int 0,.int 1,.int 3]) (g:=bZ 1) (t:=cT) (F:=ae (.int 1)) (Xx:=Xx) (n:=3) (P:=fun j=>pI (ix j:Nat)) (fun ρ=>∃ o,ρ=[some (pI (ix i:Nat)),o,some (.dat (bh a' b' c' k')),some (.dat (bh a b c k))]) (q i) (fun _=>.int 1) hcur hend (fun j hj ρ z=>bM z fun o w=>by
   subst w
   refine⟨_,rfl,⟨_,rfl⟩,?_,rfl⟩
   have m:=rb i
   have m1:=rb j
   have m2:=rb' i
   have m3:=rb' j
   unfold In at m m1 m2 m3
   refine bB (aV (a:=.int (rv a b k i*rv a' b' k' j)) (b:=.int (rv a b k j*rv a' b' k' i)) (aV (yp hi rfl rfl) (yp hj rfl rfl) (dP zE zH)) (aV (yp hj rfl rfl) (yp hi rfl rfl) (dP zE zH)) ?_)
   show some (QT (rv a b k i*rv a' b' k' j !=rv a b k j*rv a' b' k' i))=some (.bool (decide (rv a b k i*rv a' b' k' j≠rv a b k j*rv a' b' k' i)))
   generalize rv a b k i*rv a' b' k' j=x
   generalize rv a b k j*rv a' b' k' i=y
   by_cases w:x=y<;>simp[w]) (ρ:=[some (pI (ix i:Nat)),o,some (.dat (bh a' b' c' k')),some (.dat (bh a b c k))]) ⟨o,rfl⟩ (acc:=acc) (by lia)
  subst h2
  refine⟨o',?_⟩
  unfold oH
  rw[rg]
  exact h1
 refine bM (inner 0 none [] (by decide) (by simp)) fun o0 i0=>?_
 have fl:∀ i,((QA 3).filter (q i)).length≤3:=fun i=>Q6 _ (QA 3)
 have fl0:=fl 0
 have fl1:=fl 1
 have fl2:=fl 2
 refine bM (inner 1 o0 ([]++((QA 3).filter (q 0)).map fun _=>QY 1) (by decide) (by simp only[SC,Qs];exact nA)) fun o1 i1=>?_
 refine bM (inner 2 o1 ([]++(((QA 3).filter (q 0)).map fun _=>QY 1)++((QA 3).filter (q 1)).map fun _=>QY 1) (by decide) (by simp only[SC,RR,Qs];lia)) fun o2 i2=>?_
 have all:∃ Yg,eT (cA [.int 0,.int 1,.int 3]) (bZ 0) dn (oH iT (bZ 1) cT (cq (ae (.int 1)))) 3 0 [none,none,some (.dat (bh a' b' c' k')),some (.dat (bh a b c k))] [] Xx=some (Yg,([]++(((QA 3).filter (q 0)).map fun _=>QY 1)++(((QA 3).filter (q 1)).map fun _=>QY 1)++(((QA 3).filter (q 2)).map fun _=>QY 1)).map .dat,Xx) :=
  ⟨_,il (hcur 0 (by decide)) rfl rfl i0 (il (hcur 1 (by decide)) rfl rfl i1 (il (hcur 2 (by decide)) rfl rfl i2 (uX hend)))⟩
 refine bM (all) fun Yg all=>?_
 refine kG ?_
 refine⟨[]++(((QA 3).filter (q 0)).map fun _=>QY 1)++(((QA 3).filter (q 1)).map fun _=>QY 1)++(((QA 3).filter (q 2)).map fun _=>QY 1),?_,?_,?_,?_⟩
 ·unfold fV
  rw[rg]
  dsimp only[p3,QQ]
  rw[hρ]
  rw[all]
  dsimp only
  rw[kH]
  dsimp only
  rw[if_pos (by simp only[small,SC,RR,Qs,decide_eq_true_eq];lia)]
 ·have e:∀ i,(((QA 3).filter (q i)).map fun _=>QY 1).isEmpty=(!q i 0&&!q i 1&&!q i 2):=fun i=>by
   rw[show QA 3=[0,1,2] from rfl]
   cases h0:q i 0<;>cases h1:q i 1<;>cases h2:q i 2<;>simp[h0,h1,h2]
  rw[SC,BR,BR,e,e,e]
  unfold n9
  rw[SB]
  simp[q,rv]
  constructor
  ·rintro⟨⟨⟨h1,h2⟩,_,h3⟩,_,_⟩
   exact⟨⟨h1,h2⟩,h3⟩
  ·rintro⟨⟨h1,h2⟩,h3⟩
   exact⟨⟨⟨h1,h2⟩,h1.symm,h3⟩,h2.symm,h3.symm⟩
 ·intro x hx
  simp only[SC,Qw,QL] at hx
  rcases hx with(⟨_,_,h⟩ | ⟨_,_,h⟩) | ⟨_,_,h⟩<;>exact h.symm
 ·simp only[SC,RR,Qs]
  lia
theorem Nq(hss:s=1∨s=2)(hb:In 100 a∧In 100 b∧In 100 k)(hb':In 100 a'∧In 100 b'∧In 100 k')(XU:(a=0∧b=0)∨mr a b≠[])(hne':(a'=0∧b'=0)∨mr a' b'≠[]):
  kt [.dat (bh a b c k),.dat (bh a' b' c' k'),pI s] Xx=some (.dat (.bool (Dc s a b k a' b' k')),Xx):=by
 revert s a b c k a' b' c' k' Xx
 refine @si _ _ _ _ _ _ _ _ _ _ _ nI ?_
 generalize q1 _=s,q2 _=a,q3 _=b,q4 _=c,q5 _=k,q6 _=a',q7 _=b',q8 _=c',q9 _=k',qe _=Xx
 intro hss hb hb' XU hne'
 show aY (nM [some (.dat (bh a b c k)),some (.dat (bh a' b' c' k')),some (pI s),none] Xx)=_
 unfold nM
 have ws:dT (ac (aI eK (ac (aa 0) (ac (aa 2) af))) (ac (aI eK (ac (aa 1) (ac (aa 2) af))) af)) [some (.dat (bh a b c k)),some (.dat (bh a' b' c' k')),some (pI s),none] Xx=some (.dat (.list [.str (eB s a b k),.str (eB s a' b' k')]),Xx):=by
  unfold dT
  rw[cC ((bO rfl).trans (tn hss hb.1 hb.2.1 XU)) (cP ((bO rfl).trans (tn hss hb'.1 hb'.2.1 hne')))]
  rfl
 have l1:=uZ s a b k
 have l2:=uZ s a' b' k'
 unfold Dc
 generalize eB s a b k=w at *
 generalize eB s a' b' k'=w' at *
 rw[aS (dJ ws)]
 dsimp only[RG]
 have t1:ao (am mW (aa 3) (dT (ac (ae (.str "at times")) (ac (ae (.str "at times")) af)))) [some (.dat (bh a b c k)),some (.dat (bh a' b' c' k')),some (pI s),some (.dat (.list [.str w,.str w']))] Xx=some (!(decide (w=("at times":Str))&&decide (w'=("at times":Str))),Xx):=by
  refine bB (aV (a:=.list [.str w,.str w']) (b:=.list [.str "at times",.str "at times"]) rfl rfl ?_)
  unfold mW
  rw[if_pos ⟨by simp[Q8,Qv,Rn,RO,Rs] at *;exact⟨l1,l2⟩,by decide +kernel⟩]
  congr 3
  simp only[Rg,Rc,UG]
  rw[SB]
  simp
 by_cases h:w=("at times":Str)∧w'=("at times":Str)
 ·rw[decide_eq_true h.1,decide_eq_true h.2] at t1
  rw[if_pos h,aS (cr t1)]
  refine GB (IV (Xx:=Xx) (ρ:=[some (.dat (bh a b c k)),some (.dat (bh a' b' c' k')),some (pI s),some (.dat (.list [.str w,.str w']))]) hb hb' rfl) fun l c1 c2 c3 c4=>?_
  have hm:l=l.map fun _=>QY 1:=by
   conv=>lhs;rw[← List.map_id l]
   exact Sg fun x hx=>c3 x hx
  have lay:∀ l:List QC,(∀ x∈l,x=.int 1)→Rn l=true∧Rs l≤1:=fun l=>by
   induction l with
   | nil=>intro _;exact⟨rfl,by decide⟩
   | cons x l ih =>
    intro h
    have:=ih fun y hy=>h y (.tail _ hy)
    have hx:=h x (.head _)
    subst hx
    exact⟨by simp[Rn,Qv,this.1],by simp[Rs,RO];lia⟩
  have ll:=lay l c3
  have ge:bS (.list l) (.list [])=some (.bool (n9 a b k a' b' k')):=by
   unfold bS
   rw[if_pos ⟨by simp[Q8,Qv,RO,ll.1];lia,by decide +kernel⟩]
   show some (QT (Rc l []))=_
   rw[IU,c2]
  rw[bx (cp (aV c1 rfl ge))]
  rfl
 ·have hn:(decide (w=("at times":Str))&&decide (w'=("at times":Str)))=false:=by
   by_cases h1:w=("at times":Str)
   ·have:¬ w'=("at times":Str):=fun q=>h ⟨h1,q⟩
    simp[this]
   ·simp[h1]
  rw[hn] at t1
  rw[if_neg h]
  have v:am bS (aq (aa 3) (ae (.int 0))) (aq (aa 3) (ae (.int 1))) [some (.dat (bh a b c k)),some (.dat (bh a' b' c' k')),some (pI s),some (.dat (.list [.str w,.str w']))] Xx=some (.dat (.bool (decide (w=w'))),Xx) :=
   aV (a:=.str w) (b:=.str w') rfl rfl (by rw[gQ l1 l2];congr 2)
  rw[bx ((eJ t1).trans (bx (cp v)))]
  rfl
end
noncomputable def p6(f:Int→Int→Bool):Bool:=(QA 7).all fun i=>(QA 7).all fun j=>f ((i:Int) - 3) ((j:Int) - 3)
theorem rO(h:p6 f=true)(hx : -3≤x∧x≤3)(hy : -3≤y∧y≤3):f x y=true :=
 rg (n:=7) (a:=3) (f:=f x) (rg (n:=7) (a:=3) (f:=fun x=>(QA 7).all fun j=>f x ((j:Int) - 3)) h ⟨hx.1,Rb.mpr hx.2⟩) ⟨hy.1,Rb.mpr hy.2⟩
noncomputable def Ay(m x y:Int):Bool:=(x==0&&y==0)||(!(mr (m*x) (m*y)).isEmpty&&decide (kC (mr (m*x) (m*y))=(m*gz x y 0).natAbs))
theorem L0:p6 (Ay 1)=true:=by decide +kernel
theorem IW:p6 (Ay (-1))=true:=by decide +kernel
theorem L4:p6 (Ay 2)=true:=by decide +kernel
noncomputable def Az(m x y k:Int):Bool:=!nz x y 0||(decide ((m*k) % ((m*gz x y 0).natAbs:Int)=0)==decide ((cB x y 0 k).2=1))
noncomputable def qU(f:Int→Int→Int→Bool):Bool:=(QA 7).all fun i=>(QA 7).all fun j=>(QA 9).all fun k=>f ((i:Int) - 3) ((j:Int) - 3) ((k:Int) - 4)
theorem xJ(h:qU f=true)(hx : -3≤x∧x≤3)(hy : -3≤y∧y≤3)(hk : -4≤k∧k≤4):f x y k=true :=
 rg (n:=9) (a:=4) (f:=f x y) (rg (n:=7) (a:=3) (f:=fun y=>(QA 9).all fun k=>f x y ((k:Int) - 4)) (rg (n:=7) (a:=3) (f:=fun x=>(QA 7).all fun j=>(QA 9).all fun k=>f x ((j:Int) - 3) ((k:Int) - 4)) h ⟨hx.1,Rb.mpr hx.2⟩) ⟨hy.1,Rb.mpr hy.2⟩) ⟨hk.1,Rb.mpr hk.2⟩
theorem L5:qU (Az 1)=true:=by decide +kernel
theorem IX:qU (Az (-1))=true:=by decide +kernel
theorem L6:qU (Az 2)=true:=by decide +kernel
noncomputable def L7(x y k:Int):Bool:=!nz x y 0||!(decide ((cB x y 0 k).1=0)&&lL ((cQ (cd x y 0)).map (·.2)))||(decide (cd x y 0 4=2)&&decide (cd x y 0 5 =-2)&&decide (cB x y 0 k=(0,1)))
theorem Gf:qU L7=true:=by decide +kernel
noncomputable def OH(x y:Int):Bool:=p6 fun x' y'=>(x==0&&y==0)||(x'==0&&y'==0)||!(decide (x*y'=y*x'))||(decide (x / gz x y 0=x' / gz x' y' 0)&&decide (y / gz x y 0=y' / gz x' y' 0))
theorem Gg:p6 OH=true:=by decide +kernel
noncomputable def rB(G G' K K':Int):Bool:=G==0||G'==0||!(decide (G*K'=K*G'))||decide (fF (-K) G=fF (-K') G')
noncomputable def OI:Bool:=(QA 7).all fun g=>(QA 7).all fun g'=>(QA 9).all fun k=>(QA 9).all fun k'=>rB ((g:Int) - 3) ((g':Int) - 3) ((k:Int) - 4) ((k':Int) - 4)
theorem Gh:OI=true:=by decide +kernel
theorem IZ(h1 : -3≤g∧g≤3)(h2 : -3≤g'∧g'≤3)(h3 : -4≤k∧k≤4)(h4 : -4≤k'∧k'≤4)(hg:g≠0)(hg':g'≠0)(h:g*k'=k*g'):fF (-k) g=fF (-k') g':=by
 have c1:=rg (n:=7) (a:=3) (f:=fun g=>(QA 7).all fun g'=>(QA 9).all fun k=>(QA 9).all fun k'=>rB g ((g':Int) - 3) ((k:Int) - 4) ((k':Int) - 4)) Gh ⟨h1.1,Rb.mpr h1.2⟩
 have c2:=rg (n:=7) (a:=3) (f:=fun g'=>(QA 9).all fun k=>(QA 9).all fun k'=>rB g g' ((k:Int) - 4) ((k':Int) - 4)) c1 ⟨h2.1,Rb.mpr h2.2⟩
 have c3:=rg (n:=9) (a:=4) (f:=fun k=>(QA 9).all fun k'=>rB g g' k ((k':Int) - 4)) c2 ⟨h3.1,Rb.mpr h3.2⟩
 have c4:=rg (n:=9) (a:=4) (f:=rB g g' k) c3 ⟨h4.1,Rb.mpr h4.2⟩
 unfold rB at c4
 simp only[SA,beq_iff_eq,Tx,decide_eq_false_iff_not,decide_eq_true_eq] at c4
 rcases c4 with((c4 | c4) | c4) | c4
 ·exact absurd c4 hg
 ·exact absurd c4 hg'
 ·exact absurd h c4
 ·exact c4
structure tq (x y k:Int):Prop where
 x : -3≤x∧x≤3
 y : -3≤y∧y≤3
 k : -4≤k∧k≤4
theorem tq.r{x y k:Int}(i:tq x y k):nh x y 0 k:=⟨i.x,i.y,by decide,i.k⟩
theorem Hn:nz x y 0=false↔x=0∧y=0:=by simp[nz]
noncomputable def qV(m:Int):Prop:=m=1∨m =-1∨m=2
theorem AA(i:tq x y k)(hm:qV m):((m*x=0∧m*y=0)∨mr (m*x) (m*y)≠[]) ∧
  eB s (m*x) (m*y) (m*k)=if nz x y 0=false then(if k=0 then("always":Str) else("never":Str)) else if s=1∧(cB x y 0 k).2≠1 then("never":Str) else("at times":Str):=by
 revert x y k m s
 refine @GA _ _ _ _ _ _ nI ?_
 generalize q1 _=x,q2 _=y,q3 _=k,q4 _=m,qe _=s
 intro i hm
 have hm0:m≠0:=by rcases hm with rfl | rfl | rfl<;>decide
 have mz:∀ z:Int,m*z=0↔z=0:=fun z=>by
  constructor
  ·intro h;rcases R4.mp h with h | h
   ·exact absurd h hm0
   ·exact h
  ·intro h;rw[h,Wa]
 unfold eB
 simp only[mz]
 by_cases hz:x=0∧y=0
 ·rw[if_pos hz,if_pos (Hn.mpr hz)]
  exact⟨.inl hz,rfl⟩
 ·have hnz:nz x y 0=true:=by
   cases q:nz x y 0 with
   | true=>rfl
   | false=>exact absurd (Hn.mp q) hz
  have cm:p6 (Ay m)=true:=by
   rcases hm with rfl | rfl | rfl
   ·exact L0
   ·exact IW
   ·exact L4
  have ck:qU (Az m)=true:=by
   rcases hm with rfl | rfl | rfl
   ·exact L5
   ·exact IX
   ·exact L6
  have c1:=rO cm i.x i.y
  have c2:=xJ ck i.x i.y i.k
  unfold Ay at c1
  unfold Az at c2
  rw[hnz] at c2
  have hz':(x==0&&y==0)=false:=by
   cases q:(x==0&&y==0) with
   | false=>rfl
   | true=>exact absurd (by simpa using q) hz
  rw[hz'] at c1
  simp only[S1,Q4,Tx,decide_eq_true_eq] at c1
  simp only[Sc,S1,beq_iff_eq] at c2
  generalize mr (m*x) (m*y)=P at *
  rw[if_neg hz,hnz,if_neg (show ¬ (true=false) from by decide),c1.2]
  refine⟨.inr (fun q=>by have h:=c1.1;rw[q] at h;cases h),?_⟩
  have:(m*k % ((m*gz x y 0).natAbs:Int)≠0)↔((cB x y 0 k).2≠1):=by
   have:=decide_eq_decide.mp c2
   exact not_congr this
  simp only[this]
theorem L8:p6 (fun x y=>decide (-3≤gz x y 0∧gz x y 0≤3))=true:=by decide +kernel
theorem Ho(hx : -3≤x∧x≤3)(hy : -3≤y∧y≤3): -3≤gz x y 0∧gz x y 0≤3:=of_decide_eq_true (rO L8 hx hy)
theorem EP(i:tq x y k)(i':tq x' y' k')(h:nz x y 0=true)(h':nz x' y' 0=true):
  n9 x y k x' y' k'=true↔(x / gz x y 0=x' / gz x' y' 0∧y / gz x y 0=y' / gz x' y' 0∧cB x y 0 k=cB x' y' 0 k'):=by
 revert x y k x' y' k'
 refine @u4 _ _ _ _ _ _ _ nI ?_
 generalize q1 _=x,q2 _=y,q3 _=k,q4 _=x',q5 _=y',qe _=k'
 intro i i' h h'
 have c:=qS i.r h
 have c':=qS i'.r h'
 have hxy:¬ (x=0∧y=0):=fun q=>by rw[Hn.mpr q] at h;cases h
 have hxy':¬ (x'=0∧y'=0):=fun q=>by rw[Hn.mpr q] at h';cases h'
 unfold n9
 simp only[Q4,decide_eq_true_eq]
 have ex:=c.ex
 have ey:=c.ey
 have ex':=c'.ex
 have ey':=c'.ey
 have g0:=c.g0
 have g0':=c'.g0
 constructor
 ·rintro⟨⟨h1,h2⟩,h3⟩
  have d:=rO Gg i.x i.y
  have d1:=rO d i'.x i'.y
  simp only[SA,Q4,beq_iff_eq,Tx,decide_eq_false_iff_not,decide_eq_true_eq] at d1
  rcases d1 with((d1 | d1) | d1) | d1
  ·exact absurd d1 hxy
  ·exact absurd d1 hxy'
  ·exact absurd h1 d1
  ·refine⟨d1.1,d1.2,?_⟩
   have gg:gz x y 0*k'=k*gz x' y' 0:=by
    by_cases hx0:x / gz x y 0=0
    ·have hy0:y / gz x y 0≠0:=fun q=>hxy ⟨by rw[← ex,hx0,Si],by rw[← ey,q,Si]⟩
     have:y / gz x y 0*(gz x y 0*k')=y / gz x y 0*(k*gz x' y' 0):=by
      rw[← QK,ey,h3,Rx,d1.2,ey']
     exact Uu hy0 this
    ·have:x / gz x y 0*(gz x y 0*k')=x / gz x y 0*(k*gz x' y' 0):=by
      rw[← QK,ex,h2,Rx,d1.1,ex']
     exact Uu hx0 this
   exact IZ (Ho i.x i.y) (Ho i'.x i'.y) i.k i'.k g0 g0' gg
 ·rintro⟨h1,h2,h3⟩
  have ek:=c.ek
  have ek':=c'.ek
  have b2:=c.hw.bd.2.1
  rw[← h3] at ek'
  generalize cB x y 0 k=b at *
  generalize gz x y 0=g at *
  generalize gz x' y' 0=g' at *
  rw[← h1] at ex'
  rw[← h2] at ey'
  generalize x / g=A at *
  generalize y / g=C at *
  have key:g*k'=k*g':=by
   have:(g*k')*b.2=(k*g')*b.2:=by
    have e1:k'*b.2 =-(b.1*g'):=by rw[ek',SK,Int.neg_neg]
    have e2:k*b.2 =-(b.1*g):=by rw[ek,SK,Int.neg_neg]
    rw[QK,e1,Ss k g',e2,Int.mul_neg,SK,Rx,QK]
   exact Tb (Tt (by assumption)) this
  rw[← ex,← ey,← ex',← ey']
  refine⟨⟨?_,?_⟩,?_⟩
  ·rw[QK,Rx g,Rx A,QK,Rx g A]
  ·rw[QK,key,Rx]
  ·rw[QK,key,Rx]
theorem AB(h:bU a b=bU c d):(a=c∧b=d)∨(a=d∧b=c):=by
 have h1:=congrArg Nd.args h
 have p:=W5.mp (VP h1).1
 have q:=W5.mp (VP (VP h1).2).1
 rcases Xo a b with u | u<;>rcases Xo c d with v | v<;>simp only[T5,TM,T6,TL,u,v] at p q
 ·exact .inl ⟨p,q⟩
 ·exact .inr ⟨p,q⟩
 ·exact .inr ⟨q,p⟩
 ·exact .inl ⟨q,p⟩
theorem AC(h:(cu d).map (fun u=>(u,d u))=(cu d').map fun u=>(u,d' u))(hu:tri u=true):d u=d' u:=by
 have mem:∀ {d:Nat→Int} {u:Nat},tri u=true→(u∈cu d↔d u≠0):=fun {d u} hu=>by
  unfold cu
  rw[RH]
  have:=dm.mp hu
  simp
  intro _
  omega
 have one:∀ {d d':Nat→Int},(cu d).map (fun u=>(u,d u))=(cu d').map (fun u=>(u,d' u))→d u≠0→d u=d' u:=fun {d d'} h hz=>by
  have:(u,d u)∈(cu d).map fun u=>(u,d u):=QL.mpr ⟨u,(mem hu).mpr hz,rfl⟩
  rw[h] at this
  refine aH (QL.mp this) fun w _ q=>?_
  have a:=congrArg Vy q
  have b:=congrArg Xs q
  dsimp only at a b
  subst a
  exact b.symm
 by_cases h0:d u=0
 ·by_cases h1:d' u=0
  ·rw[h0,h1]
  ·exact(one h.symm h1).symm
 ·exact one h h0
section
variable {N N' M:List Nd} {s x y k x' y' k':Int}
inductive Sh (M:List Nd) (s x y k:Int) (T:Nat):Prop
 | pair:M[T]?=some (bU 4 5)→cd x y 0 4=2→cd x y 0 5 =-2→cB x y 0 k=(0,1)→Sh M s x y k T
 | atom {ts L r}:Ms M s ts ((cu (cd x y 0)).map fun u=>(u,cd x y 0 u))→(ts=[L]∨(2≤ts.length∧M[L]?=some (dz ts s)))→M[r]?=some (aM (cB x y 0 k) s)→M[T]?=some (bU L r)→Sh M s x y k T
theorem L9(x y:Int):cd x y 0 7=0:=by
 rw[NY,VQ]
 rfl
theorem Ma(o:OK s N)(hp:(run (dx s x y 0 k) N).2 <+: M)(i:tq x y k)(hz:nz x y 0=true)(hh:¬ (s=1∧(cB x y 0 k).2≠1)):Sh M s x y k (run (dx s x y 0 k) N).1:=by
 revert N M s x y k
 refine @u4 _ _ _ _ _ _ _ nI ?_
 generalize q1 _=N,q2 _=M,q3 _=s,q4 _=x,q5 _=y,qe _=k
 intro o hp i hz hh
 have can:=qS i.r hz
 unfold dx at hp ⊢
 rw[if_neg (by rw[hz];decide),if_neg hh] at hp ⊢
 have k7:7∉cu (cd x y 0):=fun q=>(fA q).2 (L9 x y)
 have atom:∀ {N0:List Nd},OK s N0→(run (eA s (cd x y 0) (cB x y 0 k)) N0).2 <+: M→Sh M s x y k (run (eA s (cd x y 0) (cB x y 0 k)) N0).1:=fun {N0} o0 hp0=>by
  refine GE (v6 (d:=cd x y 0) (B:=cB x y 0 k) o0 (can.ne hz)) fun ts L r m hL hr XU ht=>?_
  refine .atom (m.ext hp0) ?_ (b7 hp0 hr) (b7 hp0 ht)
  rcases hL with h | ⟨h1,h2⟩
  ·exact .inl h
  ·exact .inr ⟨h1,b7 hp0 h2⟩
 cases hpp:(decide ((cB x y 0 k).1=0)&&lL ((cQ (cd x y 0)).map (·.2))) with
 | true =>
  rw[hpp,if_pos rfl] at hp
  rw[if_pos rfl]
  refine cps fun G kG=>?_
  have c:=xJ Gf i.x i.y i.k
  unfold L7 at c
  rw[hz,hpp] at c
  simp only[Sc,S1,Q4,decide_eq_true_eq] at c
  obtain⟨⟨c1,c2⟩,c3⟩:=c
  have hks:cu (cd x y 0)=[4,5]:=by
   unfold cu
   simp[c1,c2,L9]
  refine kG ?_
  rw[hks] at hp ⊢
  exact .pair (b7 hp (dU (N:=N) (n:=bU 4 5) (by have:=o.len;exact nB)).1) c1 c2 c3
 | false =>
  rw[hpp,if_neg (by decide)] at hp
  rw[if_neg (by decide)]
  by_cases h1:(cu (cd x y 0)).length=1
  ·refine bM (yW h1) fun u hq=>?_
   rw[hq] at hp ⊢
   dsimp only[qL] at hp ⊢
   have h7:u≠7:=fun q=>k7 (by rw[hq,q];simp)
   rw[if_neg h7] at hp ⊢
   exact atom (o.add (aM (cB x y 0 k) s)) hp
  ·rw[zJ h1] at hp ⊢
   exact atom o hp
theorem Sh.eq(h:Sh M s x y k T):∃ L r,M[T]?=some (bU L r):=by
 cases h with
 | pair a _ _ _=>exact⟨_,_,a⟩
 | atom _ _ _ a=>exact⟨_,_,a⟩
theorem Sh.ne(oM:OK s M)(h:Sh M s x y k T):T≠1∧T≠2:=by
 refine jW (h.eq) fun L r a=>?_
 exact⟨(fun q=>by rw[q,oM.at (i:=1) rfl] at a;cases a),(fun q=>by rw[q,oM.at (i:=2) rfl] at a;cases a)⟩
theorem BS(m:Ms M s ts l)(hl:∀ x∈l,tri x.1=true)(hL:ts=[L]∨(2≤ts.length∧M[L]?=some (dz ts s))):∃ n,M[L]?=some n∧n.op≠("num":Str):=by
 rcases hL with rfl | ⟨_,h⟩
 ·refine aH (m.mem L (.head _)) fun x hx q=>?_
  exact Hm q (hl x hx)
 ·exact⟨_,h,by show("+":Str)≠_;decide⟩
theorem Mb(oM:OK s M)(h:Sh M s x y k T)(h':Sh M s x' y' k' T):x / gz x y 0=x' / gz x' y' 0∧y / gz x y 0=y' / gz x' y' 0∧cB x y 0 k=cB x' y' 0 k':=by
 revert M s x y k x' y' k' T
 refine @tX _ _ _ _ _ _ _ _ _ _ nI ?_
 generalize q1 _=M,q2 _=s,q3 _=x,q4 _=y,q5 _=k,q6 _=x',q7 _=y',q8 _=k',qe _=T
 intro oM h h'
 have fin:cd x y 0 4=cd x' y' 0 4→cd x y 0 5=cd x' y' 0 5→cB x y 0 k=cB x' y' 0 k'→x / gz x y 0=x' / gz x' y' 0∧y / gz x y 0=y' / gz x' y' 0∧cB x y 0 k=cB x' y' 0 k':=fun h1 h2 h3=>by
  rw[LT,LT] at h1
  rw[LU,LU] at h2
  exact⟨by lia,by lia,h3⟩
 have htr:∀ d:Nat→Int,∀ z∈(cu d).map (fun u=>(u,d u)),tri z.1=true:=fun d z hz=>by
  refine aH (QL.mp hz) fun u hu XX=>?_
  subst XX
  exact(fA hu).1
 have no:∀ {x y k:Int} {ts:List Nat} {L r:Nat},M[T]?=some (bU 4 5)→M[r]?=some (aM (cB x y 0 k) s)→M[T]?=some (bU L r)→False:=fun {x y k ts L r} a b c=>by
  rw[a] at c
  have e4:M[4]?=some ⟨"app",[],s,.inl 1⟩:=oM.at rfl
  have e5:M[5]?=some ⟨"app",[],s,.inl 2⟩:=oM.at rfl
  rcases AB (Rr c) with⟨_,q⟩ | ⟨q,_⟩
  ·rw[← q,e5] at b;cases b
  ·rw[← q,e4] at b;cases b
 cases h with
 | pair a p4 p5 pB =>
  cases h' with
  | pair a' p4' p5' pB'=>exact fin (p4.trans p4'.symm) (p5.trans p5'.symm) (pB.trans pB'.symm)
  | atom m' hL' hr' ht'=>exact(no (ts:=[]) a hr' ht').elim
 | atom m hL hr ht =>
  cases h' with
  | pair a' p4' p5' pB'=>exact(no (ts:=[]) a' hr ht).elim
  | atom m' hL' hr' ht' =>
   rename_i ts L r ts' L' r'
   rw[ht] at ht'
   refine aH (BS m (htr _) hL) fun n n1 n2=>?_
   refine aH (BS m' (htr _) hL') fun n' n1' n2'=>?_
   rcases AB (Rr ht') with⟨rfl,rfl⟩ | ⟨rfl,rfl⟩
   ·refine cps fun G kG=>?_
    have hB:cB x y 0 k=cB x' y' 0 k':=by
     rw[hr] at hr'
     have:=congrArg Nd.dt (Rr hr')
     simp[aM] at this
     exact TV this.1 this.2
    have hts:ts=ts':=by
     rcases hL with rfl | ⟨q1,q2⟩<;>rcases hL' with rfl | ⟨q1',q2'⟩
     ·rfl
     ·obtain⟨⟨zu,zh⟩,hz,q⟩:=m.mem L (.head _)
      dsimp only at q
      cases q with
      | unk hk a b=>rw[q2'] at a;cases a;rcases b with b | b<;>exact absurd b (by show ¬ (("+":Str)=_);decide)
      | num a=>rw[q2'] at a;cases a
      | mul a _ _=>rw[q2'] at a;cases a
     ·obtain⟨⟨zu,zh⟩,hz,q⟩:=m'.mem L (.head _)
      dsimp only at q
      cases q with
      | unk hk a b=>rw[q2] at a;cases a;rcases b with b | b<;>exact absurd b (by show ¬ (("+":Str)=_);decide)
      | num a=>rw[q2] at a;cases a
      | mul a _ _=>rw[q2] at a;cases a
     ·rw[q2] at q2'
      have:=congrArg Nd.args (Rr q2')
      simp only[dz] at this
      exact Ud (fun a b h=>by lia) |>.mp this
    subst hts
    have hl:=(m.map oM).symm.trans (m'.map oM)
    refine kG ?_
    exact fin (AC hl rfl) (AC hl rfl) hB
   ·exact absurd (by rw[n1] at hr';cases hr';rfl) n2
end
theorem TS.ext(T:TS N s t ts)(o:OK s N')(p:N <+: N'):TS N' s t ts∧∀ y,df N' ts y=df N ts y:=by
 have hm:∀ k∈ts,ff N' k=ff N k:=fun k hk=>by
  refine mH (T.mo k hk) fun u h q1 q2 _=>?_
  rw[tR o (Ap p q1),q2]
 refine⟨⟨?_,T.nd,T.few,fun k hk=>?_⟩,fun y=>?_⟩
 ·rcases T.is with h | h
  ·exact .inl h
  ·exact .inr (b7 p h)
 ·refine mH (T.mo k hk) fun u h q1 q2 q3=>?_
  exact⟨u,h,Ap p q1,(hm k hk).trans q2,q3⟩
 ·unfold df
  exact congrArg List.sum (Sg fun k hk=>by rw[hm k hk])
noncomputable abbrev lF:List Nd:=[⟨"",[],0,.inl 0⟩,⟨"true",[],0,.inl 0⟩,⟨"false",[],0,.inl 0⟩]
theorem De(X:AO)(ρ:Sl):iZ 688 kj af ρ [X]=some (.ref 1,bk ⟨X,[],[],[]⟩ lF []):=by kernel_rfl
noncomputable abbrev mF:List Nd:=lF++[⟨"app",[],0,.inl 0⟩]
noncomputable abbrev e1(X:AO):En:=⟨X,[.dat (.str "c")],[.dat (.tuple [])],[pI 0]⟩
noncomputable abbrev e3(X:AO)(s:Int):En:=⟨X,[.dat (.str "c"),.dat (.str "x"),.dat (.str "y")],[.dat (.tuple []),.dat (.tuple []),.dat (.tuple [])],[pI 0,pI s,pI s]⟩
noncomputable abbrev lG(s:Int):List Nd:=mF++[⟨"app",[],s,.inl 1⟩,⟨"app",[],s,.inl 2⟩]
theorem I0(X:AO):dB [.ref 1,.dat (.str "c"),pI 0] (bk ⟨X,[],[],[]⟩ lF [])=some (pI 3,bk (e1 X) mF []):=by kernel_rfl
theorem I1(X:AO)(s:Int)(hs:s=1∨s=2):dB [.ref 1,.dat (.str "x"),pI s] (bk (e1 X) mF [])=some (pI 4,bk ⟨X,[.dat (.str "c"),.dat (.str "x")],[.dat (.tuple []),.dat (.tuple [])],[pI 0,pI s]⟩ (mF++[⟨"app",[],s,.inl 1⟩]) []):=by
 rcases hs with rfl | rfl<;>kernel_rfl
theorem I2(X:AO)(s:Int)(hs:s=1∨s=2):dB [.ref 1,.dat (.str "y"),pI s] (bk ⟨X,[.dat (.str "c"),.dat (.str "x")],[.dat (.tuple []),.dat (.tuple [])],[pI 0,pI s]⟩ (mF++[⟨"app",[],s,.inl 1⟩]) [])=some (pI 5,bk (e3 X s) (lG s) []):=by
 rcases hs with rfl | rfl<;>kernel_rfl
theorem EQ(X:AO)(s:Int)(hs:s=1∨s=2)(L:List AO):fY [.ref 1,.dat (Q 2 1),pI s] (bk (e3 X s) (lG s) [AO.list [pI 4,pI 5]])=some (pI 6,bk (e3 X s) (lG s++[aM (2,1) s]) [AO.list [pI 4,pI 5]]):=by
 rcases hs with rfl | rfl<;>kernel_rfl
theorem ER(X:AO)(s:Int)(hs:s=1∨s=2):pS [.ref 1,pI 3,pI 6,pI 4] (bk (e3 X s) (lG s++[aM (2,1) s]) [AO.list [pI 4,pI 5]])=some (pI 7,bk (e3 X s) (base s) [AO.list [pI 4,pI 5]]):=by
 rcases hs with rfl | rfl<;>kernel_rfl
theorem Gi(e:En)(N:List Nd)(A B:AO)(ρ:Sl)(h:ρ[2]?=some (some (.ref 1))):iZ 1002 n6 (ac (aa 2) af) ρ (bk e N [A,B])=some (.ref 13,bk e N [A,B,AO.inst 1002 [some (.ref 1),some (pI 1),some (pI 2),some (.ref 14)],AO.idict []]):=by
 unfold iZ
 rw[cP (p:=.ref 1) (XA:=bk e N [A,B]) (by unfold aa;rw[h])]
 kernel_rfl
theorem I3(hs:s=1∨s=2):OK s (base s):=by
 refine⟨hs,Rj _,fun i j n hi hj ei ej=>?_⟩
 have li:=(Qt.mp ei).1
 have lj:=(Qt.mp ej).1
 have li:i<8:=li
 have lj:j<8:=lj
 have key:∀ s:Int,(s=1∨s=2)→∀ i<8,∀ j<8,1≤i→1≤j→(base s)[i]?=(base s)[j]?→i=j:=fun s hs=>by
  rcases hs with rfl | rfl<;>decide +kernel
 exact key s hs i li j lj hi hj (ei.trans ej.symm)
noncomputable abbrev B5(rows:List PV)(F:List PV):List AO:=[AO.list [pI 4,pI 5,pI 7],AO.list rows,AO.inst 1002 [some (.ref 1),some (pI 1),some (pI 2),some (.ref 14)],AO.idict [],AO.list F]
noncomputable abbrev eC(cs:List Int)(p:Nat)(fn fa fr:List PV):En:=⟨dC cs p,fn,fa,fr⟩
noncomputable abbrev Hp:SF:=(ah (gC [11,12] (aI jH (ac (aa 1) (ac (aa 10) af)))) (ah (fG [14,13] (ac (aI gD (ac (aa 2) (ac (aa 5) (ac (aa 3) (ac (aa 11) af))))) (ac (aI gD (ac (aa 2) (ac (aa 5) (ac (aa 3) (ac (aa 12) af))))) af))) (ah (bQ 15 (aC 1002 en (aa 8) (ac (aa 13) (ac (aa 14) af)))) (ah (bJ (jz (ao (am (aP fun a b=>a !=b) (aC 688 eI (aa 2) (ac (aa 15) af)) (ae (.int 0)))) (ao (am (aP fun a b=>a !=b) (aC 1002 en (aa 8) (ac (aa 14) (ac (aa 13) af))) (aa 15)))) (ah (aW (ae (.bool false))) az) az) (ah (bJ (ky (ao (aI iJ (ac (aa 2) (ac (aa 5) (ac (aa 3) (ac (aa 4) (ac (aa 10) (ac (aa 15) af))))))))) (ah (aW (ae (.bool false))) az) az) (ah (cM (d8 "list" cK (aa 9) (ac (aa 15) af))) az))))))
noncomputable abbrev lS(XO:PV)(s:Int)(Yq:Int)(l:Sl):Sl:=some XO::some (.ref 0)::some (.ref 1)::some (pI s)::some (pI 3)::some (.ref 11)::some (.ref 12)::some (pI Yq)::some (.ref 13)::some (.ref 15)::l
theorem xK(y:Nat):((lD s a b c++[(0,hs s k)]).map fun x:Nat×Int=>if x.1=y then x.2 else 0).sum=(if 4=y then hs s a else 0)+(if 5=y then hs s b else 0)+(if 7=y then hs s c else 0)+(if 0=y then hs s k else 0):=by
 have h0:hs s 0=0:=by unfold hs;split<;>rfl
 unfold lD
 by_cases ha:a=0<;>by_cases hb:b=0<;>by_cases hc:c=0<;>simp[ha,hb,hc,h0]<;>lia
theorem wc(s a x:Int):hs s (a+x) - hs s x=hs s a:=by unfold hs;split<;>lia
theorem I4(s x y t k:Int):lK (dx s x y t k) 10:=by
 revert s x y t k
 refine @GA _ _ _ _ _ _ nI ?_
 generalize q1 _=s,q2 _=x,q3 _=y,q4 _=t,qe _=k
 unfold dx
 split
 ·exact .ret ..
 ·split
  ·exact .ret ..
  ·split
   ·cases cu (cd x y t) with
    | nil=>exact .ret ..
    | cons a r=>exact Aj (fun _=>(lK.mk (m:=0) fun _=>.ret ..).mono (by decide)) (.ret ..)
   ·refine Aj (fun u=>?_) (Ak.mono (by decide))
    split
    ·have h5:lK (jK s (cB x y t k).1) 5:=by
      refine .mk fun i=>.mk fun j=>?_
      split
      ·exact .mk fun _=>.mk fun _=>.mk fun _=>.ret ..
      ·exact .mk fun _=>.mk fun _=>.mk fun _=>.ret ..
     exact h5.mono (by decide)
    ·exact .mk fun _=>Ak
theorem Mc(hs':s=1∨s=2)(hm:qV m):(hs s m≠0 ∧-4≤hs s m∧hs s m≤4)∧pq (qt (hs s m))=true∧pq (qt (-hs s m))=true:=by
 rcases hs' with rfl | rfl
 ·rcases hm with rfl | rfl | rfl
  ·exact⟨by decide,Ao,wZ⟩
  ·exact⟨by decide,wZ,Ao⟩
  ·exact⟨by decide,LL,IE⟩
 ·rcases hm with rfl | rfl | rfl
  ·exact⟨by decide,Ex,BI⟩
  ·exact⟨by decide,BI,Ex⟩
  ·exact⟨by decide,Ao,wZ⟩
theorem wd(s m x:Int):hs s (m*x)=hs s m*x:=by unfold hs;split<;>simp[QK]
theorem Gj(o:OK s N)(hl:(run (dx s x y t k) N).2.length≤1000)(R':nh x y t k):∃ n,(run (dx s x y t k) N).2[(run (dx s x y t k) N).1]?=some n∧n.sort=0 :=
 (BQ (e:=⟨AO.list [],[],[],[]⟩) (R:=[AO.idict [(4,.dat (Dh 0)),(5,.dat (Dh 0)),(3,.dat (.bool false))]]) (w:=11) (w4:=0) (w5:=0) (p:=false) o (o.run _) (Rj _) hl R' ⟨⟨_,rfl,rfl,rfl,rfl⟩,by decide,by decide⟩ (fun _=>by decide)).2
theorem In.mul(hm:qV m)(h : -B≤x∧x≤B):In (2*B) (m*x):=by
 unfold In
 rcases hm with rfl | rfl | rfl<;>lia
theorem In.le(h:In a x)(w:a≤b):In b x:=⟨Rk (Int.neg_le_neg w) h.1,Rk h.2 w⟩
theorem In.add(h:In a x)(g:In b y):In (a+b) (x+y):=by unfold In at *;exact zi
theorem In.hs(h:In b x):In (2*b) (hs s x):=by unfold Internal.hs In at *;split<;>lia
theorem Md(R:nh x y t k)(hm:qV m)(ea:a=m*x)(eb:b=m*y)(ec:c=m*t)(ek:d=m*k):In 8 a∧In 8 b∧In 8 c∧In 8 d:=by
 subst ea eb ec ek
 exact⟨(In.mul hm R.x).le (by decide),(In.mul hm R.y).le (by decide),(In.mul (B:=1) hm ⟨Rk (by decide) R.t.1,R.t.2⟩).le (by decide),In.mul hm R.k⟩
theorem ES (C:Cs cs)
  (o:OK s N) (hl:N.length≤700) (hp:p<900) (hF:F.length<100) (R:nh x y t kk) (hm:qV m) (ea:a=m*x) (eb:b=m*y) (ec:c=m*t) (ek:k=m*kk) :
  ∃ T M ext' l11 l12 l13 l14,Hp (lS XO s Yq [some (.dat (bh a b c k)),o11,o12,o13,o14,o15,o16]) (bk (eC cs p fn fa fr) N (B5 rows F++ext))=some (.next,lS XO s Yq [some (.dat (bh a b c k)),l11,l12,l13,l14,some (pI (T:Nat)),o16],bk (eC cs (p+4) fn fa fr) M (B5 rows (F++[pI (T:Nat)])++ext')) ∧
   OK s M∧N <+: M∧M.length≤N.length+40∧∃ N0,OK s N0∧N <+: N0∧run (dx s x y t kk) N0=(T,M):=by
 revert cs s N p x y t kk m a b c k XO Yq o11 o12 o13 o14 o15 o16 fn fa fr rows F ext
 refine @p9 _ _ _ _ _ _ _ _ _ _ _ _ _ nI ?_
 generalize q1 _=cs,q2 _=s,q3 _=N,q4 _=p,q5 _=x,q6 _=y,q7 _=t,q8 _=kk,q9 _=m,lI _=a,qx _=b,qe _=c
 refine @mG _ _ _ _ _ _ _ _ _ nI ?_
 generalize q1 _=k,q2 _=XO,q3 _=Yq,q4 _=o11,q5 _=o12,q6 _=o13,q7 _=o14,qe _=o15
 refine @jV _ _ _ _ _ _ _ _ nI ?_
 generalize q1 _=o16,q2 _=fn,q3 _=fa,q4 _=fr,q5 _=rows,q6 _=F,qe _=ext
 intro C o hl hp hF R hm ea eb ec ek
 refine cps fun G kG=>?_
 refine Ps (F9 C (a:=a) (b:=b) (c:=c) (d:=k) (Xx:=bk (eC cs p fn fa fr) N (B5 rows F++ext)) (p:=p) rfl hp) fun d1 d2 d3 d4 pv i1 i2 i3 i4=>?_
 have jb:=Md R hm ea eb ec ek
 have hu:∀ e':List AO,(B5 rows F++e')[0]?=some (AO.list [pI 4,pI 5,pI 7]):=fun _=>rfl
 have hrw:Rw (B5 rows F++ext):=rfl
 refine NI (EC (e:=eC cs (p+4) fn fa fr) (Xz:=B5 rows F++ext) o nA (hu _) ((jb.1.add i1).le (by decide)) ((jb.2.1.add i2).le (by decide)) ((jb.2.2.1.add i3).le (by decide)) ((jb.2.2.2.add i4).le (by decide))) fun N1 t1 ts1 n1 s1 o1 p1 l1 a1 a1s T1 g1=>?_
 refine NI (EC (e:=eC cs (p+4) fn fa fr) (Xz:=B5 rows F++ext) o1 zd (hu _) (i1.le (by decide)) (i2.le (by decide)) (i3.le (by decide)) (i4.le (by decide))) fun N2 t2 ts2 n2 s2 o2 p2 l2 a2 a2s T2 g2=>?_
 refine bA (T1.ext o2 p2) fun T1' g1'=>?_
 refine iL (Mc o.so hm) fun hcc hA hA'=>?_
 have dif:∀ y,df N2 ts1 y - df N2 ts2 y=(if 4=y then hs s a else 0)+(if 5=y then hs s b else 0)+(if 7=y then hs s c else 0)+(if 0=y then hs s k else 0):=fun y=>by
  have e1:=wc s a d1
  have e2:=wc s b d2
  have e3:=wc s c d3
  have e4:=wc s k d4
  rw[g1',g1,g2,xK,xK]
  by_cases h4:4=y<;>by_cases h5:5=y<;>by_cases h7:7=y<;>by_cases h0:0=y<;>simp only[h4,h5,h7,h0,if_true,if_false]<;>lia
 have ha:hs s a=hs s m*x:=by rw[ea,wd]
 have hb:hs s b=hs s m*y:=by rw[eb,wd]
 have hc:hs s c=hs s m*t:=by rw[ec,wd]
 have hk:hs s k=hs s m*kk:=by rw[ek,wd]
 have c1:∀ u,tri u=true→df N2 ts1 u - df N2 ts2 u=cf (hs s m*x) (hs s m*y) (hs s m*t) u:=fun u hu=>by
  rw[dif u,ha,hb,hc]
  rcases dm.mp hu with rfl | rfl | rfl<;>simp[cf]
 have c0:df N2 ts1 0 - df N2 ts2 0=hs s m*kk:=by rw[dif 0,hk];simp
 refine bM (Hi (e:=eC cs (p+4) fn fa fr) hrw o2 (by lia) T1' T2 R hcc hA c1 c0 (b7 p2 a1) a1s) fun x1 q1=>?_
 have fw:=Iy (I4 s x y t kk) N2
 have oM:=o2.run (dx s x y t kk)
 have pM:=Ag (dx s x y t kk) N2
 have ag:=s8 (dx s x y t kk) N2 (run (dx s x y t kk) N2).2 (by have:=o2.len;exact nB) oM.un (Rj _)
 refine bA (T1'.ext oM pM) fun T1'' g1''=>?_
 refine bA (T2.ext oM pM) fun T2'' g2''=>?_
 have c1':∀ u,tri u=true→df (run (dx s x y t kk) N2).2 ts2 u - df (run (dx s x y t kk) N2).2 ts1 u=cf (-hs s m*x) (-hs s m*y) (-hs s m*t) u:=fun u hu=>by
  have:=c1 u hu
  rw[g1'',g2'',SK,SK,SK]
  rcases dm.mp hu with rfl | rfl | rfl<;>simp[cf] at this ⊢<;>lia
 have c0':df (run (dx s x y t kk) N2).2 ts2 0 - df (run (dx s x y t kk) N2).2 ts1 0 =-hs s m*kk:=by
  rw[g1'',g2'',SK]
  lia
 have hcc' : -hs s m≠0 ∧-4 ≤ -hs s m ∧-hs s m≤4:=by lia
 refine bM (Hi (e:=eC cs (p+4) fn fa fr) (hrw.ext x1) oM (by lia) T2'' T1'' R hcc' hA' c1' c0' (b7 pM a2) a2s) fun x2 q2=>?_
 rw[ag] at q2
 have sem:=fun(R':List AO) (w:Nat) (w4 w5:Int) (p':Bool) (hw:Wd (eC cs (p+4) fn fa fr) (run (dx s x y t kk) N2).2 R' w w4 w5 p') (hev:s=1→w4 % 2=0∧w5 % 2=0)=>BQ (e:=eC cs (p+4) fn fa fr) o2 oM (Rj _) (by lia) R hw hev
 have hT0:∃ n,(run (dx s x y t kk) N2).2[(run (dx s x y t kk) N2).1]?=some n∧n.sort=0:=by
  exact Gj o2 (by lia) R
 generalize hM:(run (dx s x y t kk) N2).2=M at *
 generalize hT:(run (dx s x y t kk) N2).1=T at *
 refine aH (hT0) fun nT nT1 nT2=>?_
 have mv:=IT (e:=eC cs (p+4) fn fa fr) (M:=M) (Xz:=B5 rows F++ext++x1++x2) (T:=T) oM (by lia) rfl jb.1.hs jb.2.1.hs jb.2.2.1.hs jb.2.2.2.hs hcc.1 ha hb hc hk (fun R' w w4 w5 p' hw hev=>(sem R' w w4 w5 p' hw hev).1)
 refine kG ?_
 refine⟨T,M,ext++x1++x2++gm s (B5 rows F++ext++x1++x2).length 30,some (.dat (bh (a+d1) (b+d2) (c+d3) (k+d4))),some (.dat (bh d1 d2 d3 d4)),some (pI (t1:Nat)),some (pI (t2:Nat)),?_,oM,(p1.trans p2).trans pM,by lia,N2,o2,p1.trans p2,by rw[← hM,← hT]⟩
 have u1:gC [11,12] (aI jH (ac (aa 1) (ac (aa 10) af))) (lS XO s Yq [some (.dat (bh a b c k)),o11,o12,o13,o14,o15,o16]) (bk (eC cs p fn fa fr) N (B5 rows F++ext))=some (.next,lS XO s Yq [some (.dat (bh a b c k)),some (.dat (bh (a+d1) (b+d2) (c+d3) (k+d4))),some (.dat (bh d1 d2 d3 d4)),o13,o14,o15,o16],bk (eC cs (p+4) fn fa fr) N (B5 rows F++ext)):=by
  unfold gC
  rw[(bO (ps:=[.ref 0,.dat (bh a b c k)]) rfl).trans pv]
  rfl
 refine(aS u1).trans ?_
 have v1:=bO (F:=gD) (g:=ac (aa 2) (ac (aa 5) (ac (aa 3) (ac (aa 11) af)))) (ρ:=lS XO s Yq [some (.dat (bh a b c k)),some (.dat (bh (a+d1) (b+d2) (c+d3) (k+d4))),some (.dat (bh d1 d2 d3 d4)),o13,o14,o15,o16]) (Xx:=bk (eC cs (p+4) fn fa fr) N (B5 rows F++ext)) (ps:=[.ref 1,.ref 11,pI s,.dat (bh (a+d1) (b+d2) (c+d3) (k+d4))]) rfl
 have v2:=bO (F:=gD) (g:=ac (aa 2) (ac (aa 5) (ac (aa 3) (ac (aa 12) af)))) (ρ:=lS XO s Yq [some (.dat (bh a b c k)),some (.dat (bh (a+d1) (b+d2) (c+d3) (k+d4))),some (.dat (bh d1 d2 d3 d4)),o13,o14,o15,o16]) (Xx:=bk (eC cs (p+4) fn fa fr) N1 (B5 rows F++ext)) (ps:=[.ref 1,.ref 11,pI s,.dat (bh d1 d2 d3 d4)]) rfl
 have tu:=ph (is:=[14,13]) (ρ:=lS XO s Yq [some (.dat (bh a b c k)),some (.dat (bh (a+d1) (b+d2) (c+d3) (k+d4))),some (.dat (bh d1 d2 d3 d4)),o13,o14,o15,o16]) (Yg:=lS XO s Yq [some (.dat (bh a b c k)),some (.dat (bh (a+d1) (b+d2) (c+d3) (k+d4))),some (.dat (bh d1 d2 d3 d4)),some (pI (t1:Nat)),some (pI (t2:Nat)),o15,o16]) (cC (v1.trans s1) (cP (v2.trans s2))) rfl rfl
 refine(aS tu).trans ?_
 have q1':aC 1002 en (aa 8) (ac (aa 13) (ac (aa 14) af)) (lS XO s Yq [some (.dat (bh a b c k)),some (.dat (bh (a+d1) (b+d2) (c+d3) (k+d4))),some (.dat (bh d1 d2 d3 d4)),some (pI (t1:Nat)),some (pI (t2:Nat)),o15,o16]) (bk (eC cs (p+4) fn fa fr) N2 (B5 rows F++ext))=some (pI (T:Nat),bk (eC cs (p+4) fn fa fr) M (B5 rows F++ext++x1)) :=
  (bn (i:=13) (ps:=[pI (t1:Nat),pI (t2:Nat)]) (XA:=bk (eC cs (p+4) fn fa fr) N2 (B5 rows F++ext)) rfl rfl rfl).trans q1
 refine(aS (dJ q1')).trans ?_
 have so:ao (am (aP fun a b=>a !=b) (aC 688 eI (aa 2) (ac (aa 15) af)) (ae (.int 0))) (lS XO s Yq [some (.dat (bh a b c k)),some (.dat (bh (a+d1) (b+d2) (c+d3) (k+d4))),some (.dat (bh d1 d2 d3 d4)),some (pI (t1:Nat)),some (pI (t2:Nat)),some (pI (T:Nat)),o16]) (bk (eC cs (p+4) fn fa fr) M (B5 rows F++ext++x1))=some (false,bk (eC cs (p+4) fn fa fr) M (B5 rows F++ext++x1)) :=
  bB (aV (a:=.int nT.sort) (b:=.int 0) ((bn (i:=1) (ps:=[pI (T:Nat)]) (XA:=bk (eC cs (p+4) fn fa fr) M (B5 rows F++ext++x1)) rfl rfl rfl).trans (vL (by lia) nT1)) rfl (by rw[nT2];rfl))
 have ne:ao (am (aP fun a b=>a !=b) (aC 1002 en (aa 8) (ac (aa 14) (ac (aa 13) af))) (aa 15)) (lS XO s Yq [some (.dat (bh a b c k)),some (.dat (bh (a+d1) (b+d2) (c+d3) (k+d4))),some (.dat (bh d1 d2 d3 d4)),some (pI (t1:Nat)),some (pI (t2:Nat)),some (pI (T:Nat)),o16]) (bk (eC cs (p+4) fn fa fr) M (B5 rows F++ext++x1))=some (false,bk (eC cs (p+4) fn fa fr) M (B5 rows F++ext++x1++x2)) :=
  bB (aV (a:=.int (T:Nat)) (b:=.int (T:Nat)) ((bn (i:=13) (ps:=[pI (t2:Nat),pI (t1:Nat)]) (XA:=bk (eC cs (p+4) fn fa fr) M (B5 rows F++ext++x1)) rfl rfl rfl).trans q2) rfl (by show some (QT (((T:Nat):Int) !=(T:Nat)))=_;simp))
 have me:ao (aI iJ (ac (aa 2) (ac (aa 5) (ac (aa 3) (ac (aa 4) (ac (aa 10) (ac (aa 15) af))))))) (lS XO s Yq [some (.dat (bh a b c k)),some (.dat (bh (a+d1) (b+d2) (c+d3) (k+d4))),some (.dat (bh d1 d2 d3 d4)),some (pI (t1:Nat)),some (pI (t2:Nat)),some (pI (T:Nat)),o16]) (bk (eC cs (p+4) fn fa fr) M (B5 rows F++ext++x1++x2))=some (true,bk (eC cs (p+4) fn fa fr) M (B5 rows F++ext++x1++x2++gm s (B5 rows F++ext++x1++x2).length 30)) :=
  bB ((bO (ps:=[.ref 1,.ref 11,pI s,pI 3,.dat (bh a b c k),pI (T:Nat)]) rfl).trans mv)
 have ap:=zv (f:=aa 9) (fp:=aa 15) (o:=15) (L:=F) (p:=pI (T:Nat)) (ρ:=lS XO s Yq [some (.dat (bh a b c k)),some (.dat (bh (a+d1) (b+d2) (c+d3) (k+d4))),some (.dat (bh d1 d2 d3 d4)),some (pI (t1:Nat)),some (pI (t2:Nat)),some (pI (T:Nat)),o16]) (Xx:=bk (eC cs (p+4) fn fa fr) M (B5 rows F++ext++x1++x2++gm s (B5 rows F++ext++x1++x2).length 30)) rfl rfl rfl (by lia)
 refine(aS (cr ((qo so).trans ne))).trans ((aS (cr (qK me))).trans ((aS ap).trans ?_))
 simp only[QF]
 rfl
noncomputable abbrev AE:SF:=(ah (bJ (gq (ao (am (aP fun a b=>decide (a<b)) (aa 7) (ae (.int 3)))) (ao (am (aP fun a b=>a !=b) (aq (aa 9) (ae (.int 0))) (aq (aa 9) (ae (.int 1)))))) (ah (aW (ae (.bool false))) az) az) (ah (bJ (jz (ao (am (aP fun a b=>a !=b) (aq (aq (aa 6) (ae (.int 0))) (ae (.int 2))) (ae (.int 0)))) (ao (am (aP fun a b=>a !=b) (aq (aq (aa 6) (ae (.int 1))) (ae (.int 2))) (ae (.int 0))))) (ah (aW (ae (.bool true))) az) az) (ah (dM (lU (ac (aa 6) (ac (aa 9) af))) (eG [10,15]) (ah (bQ 16 (aI eK (ac (aa 10) (ac (aa 3) af)))) (ah (bJ (ao (am mW (bp (ac (am (aP fun a b=>a==b) (aa 15) (aC 688 jF (aa 2) af)) (ac (am (aP fun a b=>a==b) (aa 15) (aC 688 kg (aa 2) af)) af))) (bp (ac (am bS (aa 16) (ae (.str "never"))) (ac (am bS (aa 16) (ae (.str "always"))) af))))) (ah (aW (ae (.bool false))) az) az) az))) (ah (aW (am bS (am (aP fun a b=>a==b) (aq (aa 9) (ae (.int 0))) (aq (aa 9) (ae (.int 1)))) (aI kt (ac (aq (aa 6) (ae (.int 0))) (ac (aq (aa 6) (ae (.int 1))) (ac (aa 3) af)))))) az))))
noncomputable abbrev Hq:SF:=(bJ (ao (am (aP fun a b=>decide (b<a)) (aa 7) (ae (.int 2)))) (ah (cM (d8 "list" cK (aa 6) (ac (dT (ac (am eQ (aI bT (ac (aa 1) (ac (ae (.int 7)) af))) (ae (.int 3))) (ac (am eQ (aI bT (ac (aa 1) (ac (ae (.int 7)) af))) (ae (.int 3))) (ac (ae (.int 0)) (ac (am eQ (aI bT (ac (aa 1) (ac (ae (.int 9)) af))) (ae (.int 4))) af))))) af))) az) (ah (cM (d8 "list" cK (aa 6) (ac (fV (cF (aq (aa 6) (ae (.int 0)))) 1 [7] (bZ 0) dn (cq (am bR (aq (dT (ac (ae (.int 1)) (ac (lO lR (ae (.int 1))) (ac (ae (.int 2)) af)))) (aa 1)) (aa 0)))) af))) az))
noncomputable abbrev Me:SF:=(fG [9,8] (ac (iZ 1002 n6 (ac (aa 2) af)) (ac (fg af) af)))
theorem Gk:vJ=ah (oG [1,2] (ac (aI jU (ac (aa 0) af)) (ac (iZ 688 kj af) af))) (ah (oG [3,4] (ac (aq (dT (ac (ae (.int 1)) (ac (ae (.int 2)) af))) (aI bT (ac (aa 1) (ac (ae (.int 2)) af)))) (ac (aC 688 dB (aa 2) (ac (ae (.str "c")) (ac (ae (.int 0)) af))) af))) (ah (kN 5 (CA "xy") 1 [2,3] (bZ 0) dn (cq (aC 688 dB (aa 1) (ac (aa 0) (ac (aa 2) af))))) (ah (cM (d8 "list" cK (aa 5) (ac (aC 688 pS (aa 2) (ac (aa 4) (ac (aC 688 fY (aa 2) (ac (bp (ac (ae (.int 2)) (ac (ae (.int 1)) af))) (ac (aa 3) af))) (ac (aq (aa 5) (ae (.int 0))) af)))) af))) (ah (bQ 6 (fg (ac (dT (ac (am eQ (aI bT (ac (aa 1) (ac (ae (.int 7)) af))) (ae (.int 3))) (ac (am eQ (aI bT (ac (aa 1) (ac (ae (.int 7)) af))) (ae (.int 3))) (ac (am fu (aI bT (ac (aa 1) (ac (ae (.int 5)) af))) (ae (.int 4))) (ac (am eQ (aI bT (ac (aa 1) (ac (ae (.int 9)) af))) (ae (.int 4))) af))))) af))) (ah (bQ 7 (aI bT (ac (aa 1) (ac (ae (.int 5)) af)))) (ah Hq (ah Me (ah (dM (cF (aa 6)) (bZ 10) Hp) AE)))))))):=rfl
theorem Mf(ns:List Int)(hn:ns.length≤63):∃ cs,Cs cs∧jU [.dat (.list (ns.map .int))] []=some (.ref 0,[dC cs 0]):=by
 refine⟨(ns.take 50).map fun v=>(v.natAbs:Int) % 10103,⟨by simp;lia,fun c hc=>?_⟩,?_⟩
 ·obtain⟨v,_,rfl⟩:=QL.mp hc
  lia
 ·show aY (rC [some (.dat (.list (ns.map .int)))] [])=_
  unfold rC
  have up:yi 50 (aa 0) [some (.dat (.list (ns.map .int)))] []=some (.dat (.list ((ns.take 50).map .int)),[]):=by
   show(if small (ns.map QY) then some (PV.dat (.list ((ns.map QY).take 50)),([]:St)) else none)=_
   rw[if_pos (by simp[small];exact nA),List.map_take]
  have cm:=pi (nl:=1) (fr:=[]) (g:=bZ 0) (F:=am gO (fh jZ (ac (fh yR (ac (aa 0) af)) af)) (ae (.int 10103))) (ρ:=[some (.dat (.list (ns.map .int)))]) (fun ρ=>∃ o,ρ=[o]) (z9 fun v=>.int ((v.natAbs:Int) % 10103)) (gB (.inl up) (by simp;exact Kn)) ⟨none,rfl⟩ (fun x hx ρ z=>bM z fun o q=>by
    obtain⟨v,_,rfl⟩:=QL.mp hx
    subst q
    refine⟨_,rfl,⟨_,rfl⟩,?_⟩
    have a1:fh jZ (ac (fh yR (ac (aa 0) af)) af) [some (pI v)] []=some (pI (v.natAbs:Int),[]) :=
     Da (Da (f:=aa 0) (d:=.int v) (r:=.int v) rfl rfl) (by
      show some (QY (if v<0 then -v else v))=_
      congr 2
      exact E1 _)
    exact aV a1 rfl ((m9 (by decide)).trans (by rw[RF _ (by decide)];rfl))) (by simp;exact Kn)
  have em:((ns.take 50).map QY).map (z9 fun v=>.int ((v.natAbs:Int) % 10103))=((ns.take 50).map fun v=>(v.natAbs:Int) % 10103).map QY:=by
   rw[Ra,Ra]
   rfl
  rw[em] at cm
  have l1:fg (ac (fV (cF (yi 50 (aa 0))) 1 [] (bZ 0) dn (cq (am gO (fh jZ (ac (fh yR (ac (aa 0) af)) af)) (ae (.int 10103))))) (ac (ae (.int 0)) af)) [some (.dat (.list (ns.map .int)))] []=some (.ref 0,[dC ((ns.take 50).map fun v=>(v.natAbs:Int) % 10103) 0]):=by
   unfold fg
   rw[cC cm (cP rfl)]
   rfl
  rw[bx (cp l1)]
  rfl
structure Mg (s Yq:Int) (M:List Nd) (x y t k x' y' t' k' m:Int) (T0 T1:Nat):Prop where
 so:s=1∨s=2
 r0:nh x y t k
 r1:nh x' y' t' k'
 mu:qV m
 lo:Yq<3→x'=x∧y'=y∧t'=t∧k'=k
 hi:3≤Yq→m=1
 okM:OK s M
 len:M.length≤1000
 first:∃ N0 M0,OK s N0∧OK s M0∧run (dx s x y t k) N0=(T0,M0)∧M0 <+: M
 second:∃ N1,OK s N1∧run (dx s x' y' t' k') N1=(T1,M)
 same:dx s x' y' t' k'=dx s x y t k→T1=T0
theorem Hr(C:Cs cs)(hp:p<1000)(ht:0<top∧top<100):∃ v,bT [.ref 0,pI top] (bk (eC cs p fn fa fr) N Xz)=some (pI v,bk (eC cs (p+1) fn fa fr) N Xz)∧0≤v∧v<top:=vV C rfl hp ht
theorem Hs(h:g ρ Xx=some (ps,XA))(hl:small ps=true)(hs:jd is ps ρ=some Yg):oG is g ρ Xx=some (.next,Yg,XA):=by
 unfold oG
 rw[h]
 dsimp only[pP]
 rw[hl,if_pos rfl,hs]
 rfl
theorem Mh(hf:f ρ Xx=some (p,XA))(hg:g ρ XA=some (pI k,XB))(h:iW XB p k=some q):aq f g ρ Xx=some (q,XB):=by
 unfold aq
 rw[hf]
 dsimp only[pP,dh,mM,QQ]
 rw[hg]
 dsimp only
 rw[h];rfl
theorem Df(h1:src ρ Xx=some (XR,n,XA))(h2:eT XR g t F n 0 (ib nl fr ρ) [] XA=some (Yg,acc,XB))(h3:small acc=true):kN i src nl fr g t F ρ Xx=some (.next,ρ.set i (some (.ref XB.length)),XB++[.list acc]):=by
 unfold kN
 rw[h1]
 dsimp only[p3]
 rw[h2]
 dsimp only
 rw[if_pos h3]
noncomputable abbrev L3:AO:=AO.list [pI 4,pI 5,pI 7]
theorem Ht(C:Cs cs)(hp:p<1000)(ht:0<top∧top<100):∃ v,bT [.ref 0,pI top] (bk (e3 (dC cs p) s) N Xz)=some (pI v,bk (e3 (dC cs (p+1)) s) N Xz)∧0≤v∧v<top:=Hr C hp ht
theorem OJ(fv:jU [XO] []=some (.ref 0,[dC cs 0])):(oG [1,2] (ac (aI jU (ac (aa 0) af)) (ac (iZ 688 kj af) af))) [some XO,none,none,none,none,none,none,none,none,none,none,none,none,none,none,none,none] []=some (.next,[some XO,some (.ref 0),some (.ref 1),none,none,none,none,none,none,none,none,none,none,none,none,none,none],bk (eC cs 0 [] [] []) lF []) :=
 Hs (is:=[1,2]) (ps:=[.ref 0,.ref 1]) (cC ((bO (ps:=[XO]) (XA:=[]) rfl).trans fv) (cP (De (dC cs 0) [some XO,none,none,none,none,none,none,none,none,none,none,none,none,none,none,none,none]))) rfl rfl
theorem OL(C:Cs cs):∃ s:Int,(s=1∨s=2)∧(oG [3,4] (ac (aq (dT (ac (ae (.int 1)) (ac (ae (.int 2)) af))) (aI bT (ac (aa 1) (ac (ae (.int 2)) af)))) (ac (aC 688 dB (aa 2) (ac (ae (.str "c")) (ac (ae (.int 0)) af))) af))) [some XO,some (.ref 0),some (.ref 1),none,none,none,none,none,none,none,none,none,none,none,none,none,none] (bk (eC cs 0 [] [] []) lF [])=some (.next,[some XO,some (.ref 0),some (.ref 1),some (pI s),some (pI 3),none,none,none,none,none,none,none,none,none,none,none,none],bk (e1 (dC cs 1)) mF []):=by
 refine cps fun G kG=>?_
 obtain⟨v,dv,v0,v2⟩:=Hr C (p:=0) (fn:=[]) (fa:=[]) (fr:=[]) (N:=lF) (Xz:=[]) (top:=2) (by decide) (by decide)
 have sv:aq (dT (ac (ae (.int 1)) (ac (ae (.int 2)) af))) (aI bT (ac (aa 1) (ac (ae (.int 2)) af))) [some XO,some (.ref 0),some (.ref 1),none,none,none,none,none,none,none,none,none,none,none,none,none,none] (bk (eC cs 0 [] [] []) lF [])=some (pI (v+1),bk (eC cs 1 [] [] []) lF []):=by
  refine Mh (p:=.dat (.list [.int 1,.int 2])) (XA:=bk (eC cs 0 [] [] []) lF []) rfl ((bO (ps:=[.ref 0,pI 2]) rfl).trans dv) ?_
  rcases(show v=0∨v=1 by lia) with rfl | rfl<;>rfl
 have fc:aC 688 dB (aa 2) (ac (ae (.str "c")) (ac (ae (.int 0)) af)) [some XO,some (.ref 0),some (.ref 1),none,none,none,none,none,none,none,none,none,none,none,none,none,none] (bk (eC cs 1 [] [] []) lF [])=some (pI 3,bk (e1 (dC cs 1)) mF []) :=
  (bn (i:=1) (ps:=[.dat (.str "c"),pI 0]) (XA:=bk (eC cs 1 [] [] []) lF []) rfl rfl rfl).trans (I0 (dC cs 1))
 refine kG ?_
 exact⟨v+1,by lia,Hs (is:=[3,4]) (cC sv (cP fc)) rfl rfl⟩
theorem BU(hi:mS 688 Xx[1]?=true)(h:dB [.ref 1,.dat z,pI s] Xx=r):aC 688 dB (aa 1) (ac (aa 0) (ac (aa 2) af)) [some (.dat z),some (.ref 1),some (pI s)] Xx=r:=(bn rfl hi rfl).trans h
theorem OM(hss:s=1∨s=2):(kN 5 (CA "xy") 1 [2,3] (bZ 0) dn (cq (aC 688 dB (aa 1) (ac (aa 0) (ac (aa 2) af))))) [some XO,some (.ref 0),some (.ref 1),some (pI s),some (pI 3),none,none,none,none,none,none,none,none,none,none,none,none] (bk (e1 X) mF [])=some (.next,[some XO,some (.ref 0),some (.ref 1),some (pI s),some (pI 3),some (.ref 11),none,none,none,none,none,none,none,none,none,none,none],bk (e3 X s) (lG s) [AO.list [pI 4,pI 5]]):=by
 have fx:=BU rfl (I1 X s hss)
 have fy:=BU rfl (I2 X s hss)
 refine Df (n:=2) (acc:=[pI 4,pI 5]) (Yg:=[some (.dat (.str "y")),some (.ref 1),some (pI s)]) (XR:=vA "xy") (XA:=bk (e1 X) mF []) (XB:=bk (e3 X s) (lG s) []) rfl ?_ rfl
 exact il (p:=.dat (.str "x")) (XA:=bk (e1 X) mF []) rfl rfl rfl (qu fx (by simp)) (il (p:=.dat (.str "y")) rfl rfl rfl (qu fy (by simp)) (uX rfl))
theorem ON(hss:s=1∨s=2):(cM (d8 "list" cK (aa 5) (ac (aC 688 pS (aa 2) (ac (aa 4) (ac (aC 688 fY (aa 2) (ac (bp (ac (ae (.int 2)) (ac (ae (.int 1)) af))) (ac (aa 3) af))) (ac (aq (aa 5) (ae (.int 0))) af)))) af))) [some XO,some (.ref 0),some (.ref 1),some (pI s),some (pI 3),some (.ref 11),none,none,none,none,none,none,none,none,none,none,none] (bk (e3 X s) (lG s) [AO.list [pI 4,pI 5]])=some (.next,[some XO,some (.ref 0),some (.ref 1),some (pI s),some (pI 3),some (.ref 11),none,none,none,none,none,none,none,none,none,none,none],bk (e3 X s) (base s) [L3]):=by
 have n1:=(bn (C:=688) (F:=fY) (f:=aa 2) (G:=ac (bp (ac (ae (.int 2)) (ac (ae (.int 1)) af))) (ac (aa 3) af)) (ρ:=[some XO,some (.ref 0),some (.ref 1),some (pI s),some (pI 3),some (.ref 11),none,none,none,none,none,none,none,none,none,none,none]) (i:=1) (ps:=[.dat (Q 2 1),pI s]) (Xx:=bk (e3 X s) (lG s) [AO.list [pI 4,pI 5]]) (XA:=bk (e3 X s) (lG s) [AO.list [pI 4,pI 5]]) rfl rfl rfl).trans (EQ X s hss [])
 have i1:=(bn (C:=688) (F:=pS) (f:=aa 2) (i:=1) (ρ:=[some XO,some (.ref 0),some (.ref 1),some (pI s),some (pI 3),some (.ref 11),none,none,none,none,none,none,none,none,none,none,none]) (Xx:=bk (e3 X s) (lG s) [AO.list [pI 4,pI 5]]) rfl rfl (cC (f:=aa 4) (p:=pI 3) rfl (cC n1 (cP (f:=aq (aa 5) (ae (.int 0))) (p:=pI 4) (XA:=bk (e3 X s) (lG s++[aM (2,1) s]) [AO.list [pI 4,pI 5]]) rfl)))).trans (ER X s hss)
 exact wW (f:=aa 5) (o:=11) (L:=[pI 4,pI 5]) rfl rfl i1 rfl (by simp)
theorem py(C:Cs cs)(hρ:ρ[1]?=some (some (.ref 0)))(hp:p<1000)(top j:Int)(ht:0<top∧top<100)(G:QC→QC→Option QC)(g:Int→Int)(hG:∀ v,G (.int v) (.int j)=some (.int (g v))):
  ∃ v,am G (aI bT (ac (aa 1) (ac (ae (.int top)) af))) (ae (.int j)) ρ (bk (e3 (dC cs p) s) N Xz)=some (pI (g v),bk (e3 (dC cs (p+1)) s) N Xz)∧0≤v∧v<top:=by
 obtain⟨v,h,b⟩:=Ht C (s:=s) (N:=N) (Xz:=Xz) hp ht
 exact⟨v,aV ((bO (ps:=[.ref 0,pI top]) (cC (p:=.ref 0) (by unfold aa;rw[hρ]) (cP rfl))).trans h) rfl (hG v),b⟩
theorem Mi(h1:a ρ s0=some (pI x,s1))(h2:b ρ s1=some (pI y,s2))(h3:c ρ s2=some (pI t,s3))(h4:d ρ s3=some (pI k,s4)):dT (ac a (ac b (ac c (ac d af)))) ρ s0=some (.dat (bh x y t k),s4):=by
 unfold dT
 rw[cC h1 (cC h2 (cC h3 (cP h4)))]
 rfl
theorem OO(C:Cs cs):∃ x y t k,nh x y t k∧(bQ 6 (fg (ac (dT (ac (am eQ (aI bT (ac (aa 1) (ac (ae (.int 7)) af))) (ae (.int 3))) (ac (am eQ (aI bT (ac (aa 1) (ac (ae (.int 7)) af))) (ae (.int 3))) (ac (am fu (aI bT (ac (aa 1) (ac (ae (.int 5)) af))) (ae (.int 4))) (ac (am eQ (aI bT (ac (aa 1) (ac (ae (.int 9)) af))) (ae (.int 4))) af))))) af))) [some XO,some (.ref 0),some (.ref 1),some (pI s),some (pI 3),some (.ref 11),none,none,none,none,none,none,none,none,none,none,none] (bk (e3 (dC cs 1) s) (base s) [L3])=some (.next,[some XO,some (.ref 0),some (.ref 1),some (pI s),some (pI 3),some (.ref 11),some (.ref 12),none,none,none,none,none,none,none,none,none,none],bk (e3 (dC cs 5) s) (base s) [L3,AO.list [.dat (bh x y t k)]]):=by
 revert cs XO s
 refine @kT _ _ _ _ nI ?_
 generalize q1 _=cs,q2 _=XO,qe _=s
 intro C
 refine cps fun G kG=>?_
 obtain⟨d1,q1,b1⟩:=py C (p:=1) (s:=s) (N:=base s) (Xz:=[L3]) (ρ:=[some XO,some (.ref 0),some (.ref 1),some (pI s),some (pI 3),some (.ref 11),none,none,none,none,none,none,none,none,none,none,none]) rfl (by decide) 7 3 (by decide) eQ (fun v=>v - 3) (fun _=>rfl)
 obtain⟨d2,q2,b2⟩:=py C (p:=2) (s:=s) (N:=base s) (Xz:=[L3]) (ρ:=[some XO,some (.ref 0),some (.ref 1),some (pI s),some (pI 3),some (.ref 11),none,none,none,none,none,none,none,none,none,none,none]) rfl (by decide) 7 3 (by decide) eQ (fun v=>v - 3) (fun _=>rfl)
 obtain⟨d3,q3,b3⟩:=py C (p:=3) (s:=s) (N:=base s) (Xz:=[L3]) (ρ:=[some XO,some (.ref 0),some (.ref 1),some (pI s),some (pI 3),some (.ref 11),none,none,none,none,none,none,none,none,none,none,none]) rfl (by decide) 5 4 (by decide) fu (fun v=>v / 4) (fun v=>(lz (by decide) (by decide)).trans (by rw[Re _ (by decide)]))
 obtain⟨d4,q4,b4⟩:=py C (p:=4) (s:=s) (N:=base s) (Xz:=[L3]) (ρ:=[some XO,some (.ref 0),some (.ref 1),some (pI s),some (pI 3),some (.ref 11),none,none,none,none,none,none,none,none,none,none,none]) rfl (by decide) 9 4 (by decide) eQ (fun v=>v - 4) (fun _=>rfl)
 refine kG ?_
 refine⟨d1 - 3,d2 - 3,d3 / 4,d4 - 4,⟨by lia,by lia,by lia,by lia⟩,dJ (p:=.ref 12) ?_⟩
 unfold fg
 rw[cP (Mi q1 q2 q3 q4)]
 rfl
theorem OP(C:Cs cs):∃ w:Int,0≤w∧w<5∧(bQ 7 (aI bT (ac (aa 1) (ac (ae (.int 5)) af)))) [some XO,some (.ref 0),some (.ref 1),some (pI s),some (pI 3),some (.ref 11),some (.ref 12),none,none,none,none,none,none,none,none,none,none] (bk (e3 (dC cs 5) s) (base s) [L3,rows])=some (.next,[some XO,some (.ref 0),some (.ref 1),some (pI s),some (pI 3),some (.ref 11),some (.ref 12),some (pI w),none,none,none,none,none,none,none,none,none],bk (e3 (dC cs 6) s) (base s) [L3,rows]):=by
 obtain⟨w,h,b⟩:=Ht C (p:=5) (s:=s) (N:=base s) (Xz:=[L3,rows]) (top:=5) (by decide) (by decide)
 exact⟨w,b.1,b.2,dJ ((bO (ps:=[.ref 0,pI 5]) rfl).trans h)⟩
theorem PU(C:Cs cs)(hw:2<w):∃ x y k,nh x y 0 k∧Hq [some XO,some (.ref 0),some (.ref 1),some (pI s),some (pI 3),some (.ref 11),some (.ref 12),some (pI w),none,none,none,none,none,none,none,none,none] (bk (e3 (dC cs 6) s) (base s) [L3,AO.list [.dat d]])=some (.next,[some XO,some (.ref 0),some (.ref 1),some (pI s),some (pI 3),some (.ref 11),some (.ref 12),some (pI w),none,none,none,none,none,none,none,none,none],bk (e3 (dC cs 9) s) (base s) [L3,AO.list [.dat d,.dat (bh x y 0 k)]]):=by
 revert cs w XO s d
 refine @GA _ _ _ _ _ _ (bi nI (bi nI (bi nI (bi nI Po)))) ?_
 generalize q1 _=cs,q2 _=w,q3 _=XO,q4 _=s,qe _=d
 intro C hw
 refine cps fun G kG=>?_
 obtain⟨d1,q1,b1⟩:=py C (p:=6) (s:=s) (N:=base s) (Xz:=[L3,AO.list [.dat d]]) (ρ:=[some XO,some (.ref 0),some (.ref 1),some (pI s),some (pI 3),some (.ref 11),some (.ref 12),some (pI w),none,none,none,none,none,none,none,none,none]) rfl (by decide) 7 3 (by decide) eQ (fun v=>v - 3) (fun _=>rfl)
 obtain⟨d2,q2,b2⟩:=py C (p:=7) (s:=s) (N:=base s) (Xz:=[L3,AO.list [.dat d]]) (ρ:=[some XO,some (.ref 0),some (.ref 1),some (pI s),some (pI 3),some (.ref 11),some (.ref 12),some (pI w),none,none,none,none,none,none,none,none,none]) rfl (by decide) 7 3 (by decide) eQ (fun v=>v - 3) (fun _=>rfl)
 obtain⟨d4,q4,b4⟩:=py C (p:=8) (s:=s) (N:=base s) (Xz:=[L3,AO.list [.dat d]]) (ρ:=[some XO,some (.ref 0),some (.ref 1),some (pI s),some (pI 3),some (.ref 11),some (.ref 12),some (pI w),none,none,none,none,none,none,none,none,none]) rfl (by decide) 9 4 (by decide) eQ (fun v=>v - 4) (fun _=>rfl)
 refine kG ?_
 refine⟨d1 - 3,d2 - 3,d4 - 4,⟨by lia,by lia,by decide,by lia⟩,?_⟩
 refine(eJ (XA:=bk (e3 (dC cs 6) s) (base s) [L3,AO.list [.dat d]]) ?_).trans ((aS (wW (f:=aa 6) (o:=12) (L:=[.dat d]) rfl rfl (Mi q1 q2 (c:=ae (.int 0)) rfl q4) rfl (by simp))).trans rfl)
 exact bB (aV (a:=.int w) rfl rfl (by show some (QT (decide (2<w)))=_;rw[decide_eq_true hw]))
theorem PW(hw:(w=0∧m=1)∨(w=1∧m =-1)∨(w=2∧m=2)):Hq [some XO,some (.ref 0),some (.ref 1),some (pI s),some (pI 3),some (.ref 11),some (.ref 12),some (pI w),none,none,none,none,none,none,none,none,none] (bk (e3 (dC cs 6) s) (base s) [L3,AO.list [.dat (bh x y t k)]])=some (.next,[some XO,some (.ref 0),some (.ref 1),some (pI s),some (pI 3),some (.ref 11),some (.ref 12),some (pI w),none,none,none,none,none,none,none,none,none],bk (e3 (dC cs 6) s) (base s) [L3,AO.list [.dat (bh x y t k),.dat (bh (m*x) (m*y) (m*t) (m*k))]]):=by
 have cm:=pi (nl:=1) (fr:=[7]) (g:=bZ 0) (F:=am bR (aq (dT (ac (ae (.int 1)) (ac (lO lR (ae (.int 1))) (ac (ae (.int 2)) af)))) (aa 1)) (aa 0)) (ρ:=[some XO,some (.ref 0),some (.ref 1),some (pI s),some (pI 3),some (.ref 11),some (.ref 12),some (pI w),none,none,none,none,none,none,none,none,none]) (src:=cF (aq (aa 6) (ae (.int 0)))) (Xx:=bk (e3 (dC cs 6) s) (base s) [L3,AO.list [.dat (bh x y t k)]]) (xs:=[.int x,.int y,.int t,.int k]) (fun ρ=>∃ o,ρ=[o,some (pI w)]) (z9 fun v=>.int (m*v)) rfl ⟨none,rfl⟩ (fun z hz ρ z1=>bM z1 fun o q=>by
  subst q
  obtain⟨v,rfl⟩:∃ v,z=.int v:=by
   simp only[QJ,RV,or_false] at hz
   rcases hz with rfl | rfl | rfl | rfl<;>exact⟨_,rfl⟩
  refine⟨_,rfl,⟨_,rfl⟩,aV (a:=.int m) (b:=.int v) (XA:=bk (e3 (dC cs 6) s) (base s) [L3,AO.list [.dat (bh x y t k)]]) ?_ rfl ?_⟩
  ·rcases hw with⟨rfl,rfl⟩ | ⟨rfl,rfl⟩ | ⟨rfl,rfl⟩<;>rfl
  ·rcases hw with⟨rfl,rfl⟩ | ⟨rfl,rfl⟩ | ⟨rfl,rfl⟩<;>exact dP (by decide) (by decide)) (by simp)
 refine(cr (XA:=bk (e3 (dC cs 6) s) (base s) [L3,AO.list [.dat (bh x y t k)]]) ?_).trans ((aS (wW (f:=aa 6) (o:=12) (L:=[.dat (bh x y t k)]) rfl rfl cm rfl (by simp))).trans rfl)
 refine bB (aV (a:=.int w) rfl rfl (by show some (QT (decide (2<w)))=_;rw[decide_eq_false (by lia)]))
theorem Mj:Me [some XO,some (.ref 0),some (.ref 1),some (pI s),some (pI 3),some (.ref 11),some (.ref 12),some (pI w),none,none,none,none,none,none,none,none,none] (bk (e3 (dC cs p) s) (base s) [L3,AO.list [r0,r1]])=some (.next,lS XO s w [none,none,none,none,none,none,none],bk (e3 (dC cs p) s) (base s) (B5 [r0,r1] [])) :=
 ph (is:=[9,8]) (ps:=[.ref 13,.ref 15]) (cC (Gi (e3 (dC cs p) s) (base s) L3 (AO.list [r0,r1]) [some XO,some (.ref 0),some (.ref 1),some (pI s),some (pI 3),some (.ref 11),some (.ref 12),some (pI w),none,none,none,none,none,none,none,none,none] rfl) (cP rfl)) rfl rfl
theorem ET(C:Cs cs)(hp:p<50)(hss:s=1∨s=2)(R:nh x y t k)(R':nh x' y' t' k')(hm:qV m)(lo:w<3→x'=x∧y'=y∧t'=t∧k'=k)(hi:3≤w→m=1)(hr:rows=[.dat (bh x y t k),.dat (bh (m*x') (m*y') (m*t') (m*k'))]):
  ∃ (p':Nat) (M:List Nd) (T0 T1:Nat) (ext:List AO) (l:Sl),ah (dM (cF (aa 6)) (bZ 10) Hp) AE (lS XO s w [none,none,none,none,none,none,none]) (bk (e3 (dC cs p) s) (base s) (B5 rows [])) =
   AE (lS XO s w l) (bk (e3 (dC cs p') s) M (B5 rows [pI (T0:Nat),pI (T1:Nat)]++ext))∧l.length=7∧Mg s w M x y t k x' y' t' k' m T0 T1:=by
 revert cs p s x y t k x' y' t' k' m w rows XO
 refine @mG _ _ _ _ _ _ _ _ _ nI ?_
 generalize q1 _=cs,q2 _=p,q3 _=s,q4 _=x,q5 _=y,q6 _=t,q7 _=k,qe _=x'
 refine @jV _ _ _ _ _ _ _ _ nI ?_
 generalize q1 _=y',q2 _=t',q3 _=k',q4 _=m,q5 _=w,q6 _=rows,qe _=XO
 intro C hp hss R R' hm lo hi hr
 refine cps fun G kG=>?_
 obtain⟨T0,M0,x1,l1,l2,l3,l4,b1,o1,p1,g1,N0,on0,pn0,r0⟩:=ES C (p:=p) (fn:=[.dat (.str "c"),.dat (.str "x"),.dat (.str "y")]) (fa:=[.dat (.tuple []),.dat (.tuple []),.dat (.tuple [])]) (fr:=[pI 0,pI s,pI s]) (rows:=rows) (F:=[]) (ext:=[]) (Yq:=w) (m:=1) (XO:=XO) (o11:=none) (o12:=none) (o13:=none) (o14:=none) (o15:=none) (o16:=none) (I3 hss) (show 8≤700 by decide) nA (by decide) R (.inl rfl) (R5 x).symm (R5 y).symm (R5 t).symm (R5 k).symm
 have g1:M0.length≤48:=g1
 obtain⟨T1,M1,x2,l5,l6,l7,l8,b2,o2,p2,g2,N1,on1,pn1,r1⟩:=ES C (p:=p+4) (fn:=[.dat (.str "c"),.dat (.str "x"),.dat (.str "y")]) (fa:=[.dat (.tuple []),.dat (.tuple []),.dat (.tuple [])]) (fr:=[pI 0,pI s,pI s]) (rows:=rows) (F:=[pI (T0:Nat)]) (ext:=x1) (Yq:=w) (m:=m) (XO:=XO) (o11:=l1) (o12:=l2) (o13:=l3) (o14:=l4) (o15:=some (pI (T0:Nat))) (o16:=none) o1 nA (by lia) (by simp) R' hm rfl rfl rfl rfl
 refine kG ?_
 refine⟨p+4+4,M1,T0,T1,x2,[some (.dat (bh (m*x') (m*y') (m*t') (m*k'))),l5,l6,l7,l8,some (pI (T1:Nat)),none],?_,rfl,⟨hss,R,R',hm,lo,hi,o2,by exact zd,⟨N0,M0,on0,o1,r0,p2⟩,⟨N1,on1,r1⟩,?_⟩⟩
 ·have it:cF (aa 6) (lS XO s w [none,none,none,none,none,none,none]) (bk (e3 (dC cs p) s) (base s) (B5 rows []))=some (jA 12,2,bk (e3 (dC cs p) s) (base s) (B5 rows [])):=by subst hr;rfl
  refine aS (v8 it ?_)
  refine kK (p:=.dat (bh x y t k)) (by subst hr;rfl) rfl b1 ?_
  refine kK (p:=.dat (bh (m*x') (m*y') (m*t') (m*k'))) (by subst hr;rfl) rfl b2 ?_
  exact w8 (by subst hr;rfl)
 ·intro e1
  rw[e1] at r1
  have ag:=s8 (dx s x y t k) N0 N1 (by have:=on0.len;exact nB) on1.un (by rw[r0];exact pn1)
  rw[r1,r0] at ag
  exact congrArg Vy ag
theorem Mk(ns:List Int)(hn:ns.length≤63):∃ (cs:List Int) (p:Nat) (s Yq:Int) (M:List Nd) (x y t k x' y' t' k' m:Int) (T0 T1:Nat) (ext:List AO) (l:Sl),
  vJ ([some (.dat (.list (ns.map .int)))]++RA 16 none) []=AE (lS (.dat (.list (ns.map .int))) s Yq l) (bk (e3 (dC cs p) s) M (B5 [.dat (bh x y t k),.dat (bh (m*x') (m*y') (m*t') (m*k'))] [pI (T0:Nat),pI (T1:Nat)]++ext))∧l.length=7∧Mg s Yq M x y t k x' y' t' k' m T0 T1:=by
 revert ns
 refine @NE _ _ nI ?_
 generalize qe _=ns
 intro hn
 refine cps fun G kG=>?_
 obtain⟨cs,C,fv⟩:=Mf ns hn
 obtain⟨s,hss,h1⟩:=OL (XO:=.dat (.list (ns.map .int))) C
 obtain⟨x,y,t,k,R,h4⟩:=OO (XO:=.dat (.list (ns.map .int))) C (s:=s)
 obtain⟨w,w0,w5,h5⟩:=OP (XO:=.dat (.list (ns.map .int))) C (s:=s) (rows:=AO.list [.dat (bh x y t k)])
 have Xx:vJ ([some (.dat (.list (ns.map .int)))]++RA 16 none) []=ah Hq (ah Me (ah (dM (cF (aa 6)) (bZ 10) Hp) AE)) (some (.dat (.list (ns.map .int)))::[some (.ref 0),some (.ref 1),some (pI s),some (pI 3),some (.ref 11),some (.ref 12),some (pI w),none,none,none,none,none,none,none,none,none]) (bk (e3 (dC cs 6) s) (base s) [L3,AO.list [.dat (bh x y t k)]]):=by
  rw[Gk]
  exact(aS (OJ fv)).trans ((aS h1).trans ((aS (OM hss)).trans ((aS (ON hss)).trans ((aS h4).trans (aS h5)))))
 refine kG ?_
 rw[Xx]
 by_cases hw:2<w
 ·refine cps fun G kG=>?_
  obtain⟨x',y',k',R',h6⟩:=PU (XO:=.dat (.list (ns.map .int))) C (s:=s) (d:=bh x y t k) hw
  obtain⟨p',M,T0,T1,ext,l,lv,ll,lo⟩:=ET C (p:=9) (by decide) (XO:=.dat (.list (ns.map .int))) (w:=w) hss R R' (.inl rfl) (fun h=>by lia) (fun _=>rfl) rfl
  refine kG ?_
  refine⟨cs,p',s,w,M,x,y,t,k,x',y',0,k',1,T0,T1,ext,l,?_,ll,lo⟩
  refine(aS h6).trans ((aS Mj).trans ?_)
  rw[← lv,R5,R5,R5,R5]
 ·refine cps fun G kG=>?_
  obtain⟨m,hm,hwm⟩:∃ m:Int,qV m∧((w=0∧m=1)∨(w=1∧m =-1)∨(w=2∧m=2)):=by
   rcases(show w=0∨w=1∨w=2 by lia) with h | h | h
   ·exact⟨1,.inl rfl,.inl ⟨h,rfl⟩⟩
   ·exact⟨-1,.inr (.inl rfl),.inr (.inl ⟨h,rfl⟩)⟩
   ·exact⟨2,.inr (.inr rfl),.inr (.inr ⟨h,rfl⟩)⟩
  obtain⟨p',M,T0,T1,ext,l,lv,ll,lo⟩:=ET C (p:=6) (by decide) (XO:=.dat (.list (ns.map .int))) (w:=w) hss R R hm (fun h=>⟨rfl,rfl,rfl,rfl⟩) (fun h=>by contradiction) rfl
  refine kG ?_
  exact⟨cs,p',s,w,M,x,y,t,k,x,y,t,k,m,T0,T1,ext,l,(aS (PW hwm)).trans ((aS Mj).trans lv),ll,lo⟩
noncomputable def AF(M:List Nd)(s x y k:Int)(w:Str)(T:Nat):Prop:=(w=("always":Str)∧T=1)∨(w=("never":Str)∧T=2)∨(w=("at times":Str)∧nz x y 0=true∧Sh M s x y k T)
theorem EU(o:OK s N)(hr:run (dx s x y 0 k) N=(T,M0))(hp:M0 <+: M)(i:tq x y k)(hm:qV m):AF M s x y k (eB s (m*x) (m*y) (m*k)) T:=by
 have w:=(AA (s:=s) i hm).2
 have fin:∀ v,run (dx s x y 0 k) N=(v,N)→T=v:=fun v h=>congrArg Vy (hr.symm.trans h)
 by_cases hz:nz x y 0=false
 ·rw[if_pos hz] at w
  have e:run (dx s x y 0 k) N=((if k=0 then 1 else 2),N):=by
   unfold dx
   rw[if_pos hz]
   rfl
  by_cases hk:k=0
  ·rw[if_pos hk] at w e
   exact .inl ⟨w,fin 1 e⟩
  ·rw[if_neg hk] at w e
   exact .inr (.inl ⟨w,fin 2 e⟩)
 ·rw[if_neg hz] at w
  by_cases hh:s=1∧(cB x y 0 k).2≠1
  ·rw[if_pos hh] at w
   have e:run (dx s x y 0 k) N=(2,N):=by
    unfold dx
    rw[if_neg hz,if_pos hh]
    rfl
   exact .inr (.inl ⟨w,fin 2 e⟩)
  ·rw[if_neg hh] at w
   have hz':nz x y 0=true:=by simpa using hz
   have sh:=Ma (M:=M) o (by rw[hr];exact hp) i hz' hh
   rw[hr] at sh
   exact .inr (.inr ⟨w,hz',sh⟩)
theorem AF.eqs(oM:OK s M)(h:AF M s x y k w T):decide (w=("never":Str))=decide (T=2)∧decide (w=("always":Str))=decide (T=1):=by
 rcases h with⟨rfl,rfl⟩ | ⟨rfl,rfl⟩ | ⟨rfl,_,h⟩
 ·exact⟨by decide,by decide⟩
 ·exact⟨by decide,by decide⟩
 ·rw[decide_eq_false (h.ne oM).1,decide_eq_false (h.ne oM).2]
  exact⟨by decide,by decide⟩
theorem I5(h:nz x y 0=true)(h':nz x' y' 0=true)(a:x / gz x y 0=x' / gz x' y' 0)(b:y / gz x y 0=y' / gz x' y' 0)(c:cB x y 0 k=cB x' y' 0 k'):dx s x' y' 0 k'=dx s x y 0 k:=by
 have e:cd x' y' 0=cd x y 0:=by
  unfold cd
  rw[a,b,VQ,VQ]
 unfold dx
 rw[h,h',e,c,if_neg (show ¬ (true=false) by decide),if_neg (show ¬ (true=false) by decide)]
theorem I6(hm:m≠0):n9 a b k (m*a') (m*b') (m*k')=n9 a b k a' b' k':=by
 have e:∀ a b c d:Int,a*(m*b)=c*(m*d)↔a*b=c*d:=fun a b c d=>by
  rw[Rx a,Rx c]
  exact Int.mul_eq_mul_left_iff hm
 unfold n9
 simp only[e]
theorem qV.ne(h:qV m):m≠0:=by rcases h with rfl | rfl | rfl<;>decide
theorem Ml {T0 T1:Nat} (oM:OK s M) (i:tq x y k) (i':tq x' y' k') (hm:qV m) (K0:AF M s x y k (eB s x y k) T0) (K1:AF M s x' y' k' (eB s (m*x') (m*y') (m*k')) T1)
  (same:dx s x' y' 0 k'=dx s x y 0 k→T1=T0):decide (T0=T1)=Dc s x y k (m*x') (m*y') (m*k'):=by
 revert s M x y k x' y' k' m T0 T1
 refine @Kr _ _ _ _ _ _ _ _ _ _ _ _ nI ?_
 generalize q1 _=s,q2 _=M,q3 _=x,q4 _=y,q5 _=k,q6 _=x',q7 _=y',q8 _=k',q9 _=m,lI _=T0,qe _=T1
 intro oM i i' hm K0 K1 same
 unfold Dc
 rw[I6 hm.ne]
 generalize eB s x y k=w at *
 generalize eB s (m*x') (m*y') (m*k')=w' at *
 rcases K0 with⟨rfl,rfl⟩ | ⟨rfl,rfl⟩ | ⟨rfl,z0,s0⟩<;>rcases K1 with⟨rfl,rfl⟩ | ⟨rfl,rfl⟩ | ⟨rfl,z1,s1⟩
 ·rw[if_neg (by decide)];decide
 ·rw[if_neg (by decide)];decide
 ·rw[if_neg (by decide),decide_eq_false (fun q=>(s1.ne oM).1 q.symm)];decide
 ·rw[if_neg (by decide)];decide
 ·rw[if_neg (by decide)];decide
 ·rw[if_neg (by decide),decide_eq_false (fun q=>(s1.ne oM).2 q.symm)];decide
 ·rw[if_neg (by decide),decide_eq_false (s0.ne oM).1];decide
 ·rw[if_neg (by decide),decide_eq_false (s0.ne oM).2];decide
 ·rw[if_pos ⟨rfl,rfl⟩,SB,decide_eq_true_iff,EP i i' z0 z1]
  constructor
  ·intro q
   subst q
   exact Mb oM s0 s1
  ·rintro⟨a,b,c⟩
   exact(same (I5 z0 z1 a b c)).symm
noncomputable abbrev N3:EF:=bp (ac (am (aP fun a b=>a==b) (aa 15) (aC 688 jF (aa 2) af)) (ac (am (aP fun a b=>a==b) (aa 15) (aC 688 kg (aa 2) af)) af))
noncomputable abbrev N4:EF:=bp (ac (am bS (aa 16) (ae (.str "never"))) (ac (am bS (aa 16) (ae (.str "always"))) af))
noncomputable abbrev N5:SF:=ah (bQ 16 (aI eK (ac (aa 10) (ac (aa 3) af)))) (ah (bJ (ao (am mW N3 N4)) (ah (aW (ae (.bool false))) az) az) az)
section
variable {e:En} {N:List Nd} {Xz:List AO} {s Yq a b c k:Int} {XO:PV} {o1 o2 o3 o4 o5 o6:Option PV} {T:Nat}
theorem Dg(j:Nat)(h1:f ρ Xx=some (pI (T:Nat),Xx))(h2:g ρ Xx=some (pI (j:Nat),Xx)):am (aP fun a b=>a==b) f g ρ Xx=some (.dat (.bool (decide (T=j))),Xx) :=
 aV (a:=.int (T:Nat)) (b:=.int (j:Nat)) h1 h2 (by
  show some (QT (((T:Nat):Int)==((j:Nat):Int)))=_
  rw[show(((T:Nat):Int)==((j:Nat):Int))=decide (T=j) from by rw[SB];simp;lia])
theorem Mm(h1:f ρ Xx=some (.dat (.bool u),Xx))(h2:g ρ Xx=some (.dat (.bool v),Xx)):bp (ac f (ac g af)) ρ Xx=some (.dat (.tuple [.bool u,.bool v]),Xx):=by
 unfold bp
 rw[cC h1 (cP h2)]
 rfl
theorem I7:∀ u v:Bool,mW (.tuple [.bool u,.bool v]) (.tuple [.bool u,.bool v])=some (.bool false):=by
 intro u v
 cases u<;>cases v<;>kernel_rfl
theorem Hu(hss:s=1∨s=2)(ha:In 100 a)(hb:In 100 b)(XU:(a=0∧b=0)∨mr a b≠[])(hN:decide (eB s a b k=("never":Str))=decide (T=2))(hA:decide (eB s a b k=("always":Str))=decide (T=1)):
  N5 (lS XO s Yq [some (.dat (bh a b c k)),o1,o2,o3,o4,some (pI (T:Nat)),o6]) (bk e N Xz)=some (.next,lS XO s Yq [some (.dat (bh a b c k)),o1,o2,o3,o4,some (pI (T:Nat)),some (.dat (.str (eB s a b k)))],bk e N Xz):=by
 have w:=(bO (F:=eK) (g:=ac (aa 10) (ac (aa 3) af)) (ρ:=lS XO s Yq [some (.dat (bh a b c k)),o1,o2,o3,o4,some (pI (T:Nat)),o6]) (Xx:=bk e N Xz) (ps:=[.dat (bh a b c k),pI s]) rfl).trans (tn hss ha hb XU)
 have lw:=uZ s a b k
 generalize eB s a b k=word at *
 refine(aS (dJ w)).trans ?_
 show ah _ _ (lS XO s Yq [some (.dat (bh a b c k)),o1,o2,o3,o4,some (pI (T:Nat)),some (.dat (.str word))]) _=_
 have n1:N3 (lS XO s Yq [some (.dat (bh a b c k)),o1,o2,o3,o4,some (pI (T:Nat)),some (.dat (.str word))]) (bk e N Xz)=some (.dat (.tuple [.bool (decide (T=2)),.bool (decide (T=1))]),bk e N Xz) :=
  Mm (Dg 2 rfl ((bn (i:=1) (ps:=[]) rfl rfl rfl).trans rfl)) (Dg 1 rfl ((bn (i:=1) (ps:=[]) rfl rfl rfl).trans rfl))
 have eqS:∀ t:Str,Qv (.str t)=true→am bS (aa 16) (ae (.str t)) (lS XO s Yq [some (.dat (bh a b c k)),o1,o2,o3,o4,some (pI (T:Nat)),some (.dat (.str word))]) (bk e N Xz)=some (.dat (.bool (decide (word=t))),bk e N Xz):=fun t lt =>
  aV (a:=.str word) (b:=.str t) rfl rfl (by rw[gQ lw lt];congr 2)
 have n2:N4 (lS XO s Yq [some (.dat (bh a b c k)),o1,o2,o3,o4,some (pI (T:Nat)),some (.dat (.str word))]) (bk e N Xz)=some (.dat (.tuple [.bool (decide (word=("never":Str))),.bool (decide (word=("always":Str)))]),bk e N Xz) :=
  Mm (eqS _ xI) (eqS _ wa)
 rw[hN,hA] at n2
 exact(aS (cr (bB (aV n1 n2 (I7 _ _))))).trans rfl
end
theorem I8(h1:f ρ Xx=some (pI x,Xx))(h2:g ρ Xx=some (pI 0,Xx)):ao (am (aP fun a b=>a !=b) f g) ρ Xx=some (decide (x≠0),Xx) :=
 bB (aV (a:=.int x) (b:=.int 0) h1 h2 (LY x))
theorem Hv(h:aq (aa 6) (ae (.int i)) ρ Xx=some (.dat (bh x y t k),Xx)):ao (am (aP fun a b=>a !=b) (aq (aq (aa 6) (ae (.int i))) (ae (.int 2))) (ae (.int 0))) ρ Xx=some (decide (t≠0),Xx) :=
 I8 (gW (p:=.dat (bh x y t k)) (k:=2) h rfl rfl) rfl
theorem Mn{m x:Int}(h:qV m)(b : -4≤x∧x≤4):In 100 (m*x):=by
 unfold In
 rcases h with rfl | rfl | rfl<;>lia
theorem Mp{T0 T1:Nat}(hl:l.length=7)(o:Mg s Yq M x y t k x' y' t' k' m T0 T1):
  ∃ Yg,AE (lS XO s Yq l) (bk (e3 (dC cs p) s) M (B5 [.dat (bh x y t k),.dat (bh (m*x') (m*y') (m*t') (m*k'))] [pI (T0:Nat),pI (T1:Nat)]++ext))=some (.ret (.dat (.bool true)),Yg,bk (e3 (dC cs p) s) M (B5 [.dat (bh x y t k),.dat (bh (m*x') (m*y') (m*t') (m*k'))] [pI (T0:Nat),pI (T1:Nat)]++ext)):=by
 revert s Yq M x y t k x' y' t' k' m XO l cs p ext T0 T1
 refine @si _ _ _ _ _ _ _ _ _ _ _ nI ?_
 generalize q1 _=s,q2 _=Yq,q3 _=M,q4 _=x,q5 _=y,q6 _=t,q7 _=k,q8 _=x',q9 _=y',qe _=t'
 refine @tX _ _ _ _ _ _ _ _ _ _ nI ?_
 generalize q1 _=k',q2 _=m,q3 _=XO,q4 _=l,q5 _=cs,q6 _=p,q7 _=ext,q8 _=T0,qe _=T1
 intro hl o
 refine cps fun G kG=>?_
 obtain⟨l0,l1,l2,l3,l4,l5,l6,rfl⟩:=Ot hl
 refine kG ?_
 generalize hst:bk (e3 (dC cs p) s) M (B5 [.dat (bh x y t k),.dat (bh (m*x') (m*y') (m*t') (m*k'))] [pI (T0:Nat),pI (T1:Nat)]++ext)=Xx
 have s0:∀ l,aq (aa 9) (ae (.int 0)) (lS XO s Yq l) Xx=some (pI (T0:Nat),Xx):=fun l=>gW (p:=.ref 15) (k:=0) rfl rfl (by subst hst;rfl)
 have s1:∀ l,aq (aa 9) (ae (.int 1)) (lS XO s Yq l) Xx=some (pI (T1:Nat),Xx):=fun l=>gW (p:=.ref 15) (k:=1) rfl rfl (by subst hst;rfl)
 have r0:∀ l,aq (aa 6) (ae (.int 0)) (lS XO s Yq l) Xx=some (.dat (bh x y t k),Xx):=fun l=>gW (p:=.ref 12) (k:=0) rfl rfl (by subst hst;rfl)
 have r1:∀ l,aq (aa 6) (ae (.int 1)) (lS XO s Yq l) Xx=some (.dat (bh (m*x') (m*y') (m*t') (m*k')),Xx):=fun l=>gW (p:=.ref 12) (k:=1) rfl rfl (by subst hst;rfl)
 have t9:gq (ao (am (aP fun a b=>decide (a<b)) (aa 7) (ae (.int 3)))) (ao (am (aP fun a b=>a !=b) (aq (aa 9) (ae (.int 0))) (aq (aa 9) (ae (.int 1))))) (lS XO s Yq [l0,l1,l2,l3,l4,l5,l6]) Xx=some (false,Xx):=by
  have a:ao (am (aP fun a b=>decide (a<b)) (aa 7) (ae (.int 3))) (lS XO s Yq [l0,l1,l2,l3,l4,l5,l6]) Xx=some (decide (Yq<3),Xx):=bB (aV (a:=.int Yq) (b:=.int 3) rfl rfl rfl)
  by_cases hw:Yq<3
  ·rw[decide_eq_true hw] at a
   refine Dm (o.lo hw) fun e1 e2 e3 e4=>?_
   have q:T1=T0:=o.same (by rw[e1,e2,e3,e4])
   refine(i8 a).trans (bB (aV (a:=.int (T0:Nat)) (b:=.int (T1:Nat)) (s0 _) (s1 _) ?_))
   show some (QT (((T0:Nat):Int) !=((T1:Nat):Int)))=_
   rw[q]
   simp
  ·rw[decide_eq_false hw] at a
   exact my a
 unfold AE
 rw[aS (cr t9)]
 have m0:=o.mu.ne
 have v0:=Hv (r0 [l0,l1,l2,l3,l4,l5,l6])
 have v1:=Hv (r1 [l0,l1,l2,l3,l4,l5,l6])
 by_cases ht:t≠0
 ·rw[decide_eq_true ht] at v0
  exact⟨_,bx ((eJ (CU v0)).trans (bx rfl))⟩
 ·rw[decide_eq_false ht] at v0
  by_cases ht':m*t'≠0
  ·rw[decide_eq_true ht'] at v1
   exact⟨_,bx ((eJ ((qo v0).trans v1)).trans (bx rfl))⟩
  ·rw[decide_eq_false ht'] at v1
   rw[aS (cr ((qo v0).trans v1))]
   have z:t=0:=QG ht
   have z':t'=0:=(R4.mp (QG ht')).resolve_left m0
   subst z z'
   have i:tq x y k:=⟨o.r0.x,o.r0.y,o.r0.k⟩
   have i':tq x' y' k':=⟨o.r1.x,o.r1.y,o.r1.k⟩
   refine GC (o.first) fun N0 M0 on0 om0 ru0 p0=>?_
   refine aH (o.second) fun N1 on1 ru1=>?_
   have K0:=EU on0 ru0 p0 i (.inl rfl)
   have K1:=EU on1 ru1 (Rj _) i' o.mu
   have g0:=(AA (s:=s) i (m:=1) (.inl rfl)).1
   have g1:=(AA (s:=s) i' o.mu).1
   rw[R5,R5,R5] at K0
   rw[R5,R5] at g0
   have b0:In 100 x∧In 100 y∧In 100 k:=by
    exact⟨zA i.x,zA i.y,zA i.k⟩
   have b1:In 100 (m*x')∧In 100 (m*y')∧In 100 (m*k'):=by
    exact⟨Mn o.mu (zA i'.x),Mn o.mu (zA i'.y),Mn o.mu i'.k⟩
   have u0:=Hu (e:=e3 (dC cs p) s) (N:=M) (Xz:=B5 [.dat (bh x y 0 k),.dat (bh (m*x') (m*y') (m*0) (m*k'))] [pI (T0:Nat),pI (T1:Nat)]++ext) (Yq:=Yq) (c:=0) (XO:=XO) (o1:=l1) (o2:=l2) (o3:=l3) (o4:=l4) (o6:=l6) o.so b0.1 b0.2.1 g0 (K0.eqs o.okM).1 (K0.eqs o.okM).2
   have u1:=Hu (e:=e3 (dC cs p) s) (N:=M) (Xz:=B5 [.dat (bh x y 0 k),.dat (bh (m*x') (m*y') (m*0) (m*k'))] [pI (T0:Nat),pI (T1:Nat)]++ext) (Yq:=Yq) (c:=m*0) (XO:=XO) (o1:=l1) (o2:=l2) (o3:=l3) (o4:=l4) (o6:=some (.dat (.str (eB s x y k)))) o.so b1.1 b1.2.1 g1 (K1.eqs o.okM).1 (K1.eqs o.okM).2
   rw[hst] at u0 u1
   have lo:dM (lU (ac (aa 6) (ac (aa 9) af))) (eG [10,15]) N5 (lS XO s Yq [l0,l1,l2,l3,l4,l5,l6]) Xx=some (.next,lS XO s Yq [some (.dat (bh (m*x') (m*y') (m*0) (m*k'))),l1,l2,l3,l4,some (pI (T1:Nat)),some (.dat (.str (eB s (m*x') (m*y') (m*k'))))],Xx):=by
    have it:lU (ac (aa 6) (ac (aa 9) af)) (lS XO s Yq [l0,l1,l2,l3,l4,l5,l6]) Xx=some (iG (.ref 12) (.ref 15),2,Xx):=by subst hst;rfl
    refine v8 it ?_
    refine kK (p:=.dat (.tuple [bh x y 0 k,.int (T0:Nat)])) (by subst hst;rfl) rfl u0 ?_
    refine kK (p:=.dat (.tuple [bh (m*x') (m*y') (m*0) (m*k'),.int (T1:Nat)])) (by subst hst;rfl) rfl u1 ?_
    exact w8 (by subst hst;rfl)
   have sv:=Nq (c:=0) (c':=m*0) (Xx:=Xx) o.so b0 b1 g0 g1
   rw[← Ml o.okM i i' o.mu K0 K1 o.same] at sv
   refine⟨_,(aS lo).trans (bx (cp (p:=.dat (.bool true)) (aV (Dg T1 (s0 _) (s1 _)) ((bO (cC (r0 _) (cC (r1 _) (cP rfl)))).trans sv) ?_)))⟩
   cases decide (T0=T1)<;>kernel_rfl
theorem Gl(ns:List Int)(hn:ns.length≤63):∃ XK,yj [.dat (.list (ns.map .int))] []=some (.dat (.bool true),XK):=by
 revert ns
 refine @NE _ _ nI ?_
 generalize qe _=ns
 intro hn
 refine cps fun G kG=>?_
 obtain⟨cs,p,s,Yq,M,x,y,t,k,x',y',t',k',m,T0,T1,ext,l,h,hl,o⟩:=Mk ns hn
 obtain⟨Yg,h2⟩:=Mp (cs:=cs) (p:=p) (ext:=ext) (XO:=.dat (.list (ns.map .int))) hl o
 have e:yj [.dat (.list (ns.map .int))] []=aY (vJ ([some (.dat (.list (ns.map .int)))]++RA 16 none) []):=rfl
 refine kG ?_
 exact⟨_,e.trans ((congrArg aY (h.trans h2)).trans rfl)⟩
theorem row:RN.Holds:=FN Gl
end Mine.Internal
end
theorem PySem.Challenge.cw_sj0104_01_holds : PySem.Challenge.rw_sj0104_01.Holds := by
 exact Mine.Internal.row
