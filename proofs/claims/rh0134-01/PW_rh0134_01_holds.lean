import PyProof.Rows.All
import PyProof.P3Eq
import KE.KSortTup
import Wide.FinOn
import OpenK.AllK
import Wide.All
import Lean
import PySem.Challenge.RW_rh0134_01
open PySem PySem.W
set_option Elab.async false
set_option tactic.hygienic false
set_option genSizeOfSpec false
set_option genInjectivity false
set_option autoImplicit true
set_option maxRecDepth 100000
set_option maxHeartbeats 0
set_option linter.all false
namespace Mine.Internal
noncomputable section
local macro_rules | `(mutual $cs* end)=>if cs.size<9 then Lean.Macro.throwUnsupported else return Lean.mkNullNode (cs.map (Lean.Syntax.rewriteBottomUp (·.setInfo .none) ·.raw))
mutual
abbrev V9:=List (Nat×Nat)
abbrev W9:=List Nat
abbrev X9:=List Value
abbrev Y9:=List Str
abbrev Z9:=List Int
abbrev V8:=Value->Shared->Prop
abbrev W8:=Unit->Shared->Prop
abbrev X8:=Option Value
def ID:=@Nat.le_trans
def PC:=@Bool.false_ne_true
def PD:=@Nat.le_refl
def PG:=@List.mem_singleton
def PH:=@List.not_mem_nil
def PI:=@Nat.le_of_eq
def PJ:=@Nat.lt_of_le_of_lt
def PK:=@List.mem_append_right
def PL:=@List.length_map
def PM:=@Nat.le_add_right
def PN:=@wpAny_bind
def PO:=@Exists.elim
def PQ:=@List.length_append
def PR:=@congrArg
def PU:=@List.map_append
def PV:=@if_neg
def PW:=@if_pos
def PX:=@Nat.add_le_add_right
def PY:=@Nat.zero_le
def PZ:=@List.mem_append_left
def P0:=@List.mem_cons
def P1:=@List.mem_map
def P2:=@Nat.le_of_lt
def P3:=@List.mem_append
def P4:=@List.getElem?_eq_getElem
def P5:=@Nat.lt_of_lt_of_le
def P6:=@Nat.le_of_ble_eq_true
def P7:=@Bool.and_eq_true_iff
def P8:=@Nat.add_le_add_left
def P9:=@of_decide_eq_true
def Qa:=@wpAny_pure
def Qb:=@decide_eq_false
def Qc:=@List.all_eq_true
def Qd:=@beq_iff_eq
def Qe:=@Eq.symm
def Qf:=@PySem.Str.length_append
def Qg:=@decide_eq_true
def Qh:=@Option.some.inj
def Qi:=@List.getElem?_eq_some_iff
def Qj:=@wpAny_mono
def Ql:=@Heap.get?_push_of_some
def Qm:=@List.append_nil
def Qn:=@Nat.succ_le_succ
def Qo:=@List.append_assoc
def Qp:=@Nat.le_add_left
def Qq:=@Nat.lt_succ_of_le
def Qr:=@wpAny_holding
def Qt:=@Nat.le_succ
def Qu:=@Nat.add_le_add
def Qv:=@Bool.eq_false_iff
def Qw:=@Bool.or_eq_true_iff
def Qx:=@List.flatMap_append
def Qy:=@Nat.add_right_comm
def Qz:=@Nat.le_antisymm
def QA:=@List.map_map
def QB:=@List.cons.inj
def QC:=@Nat.mul_le_mul_left
def QD:=@Bool.not_eq_true'
def QE:=@List.flatMap_cons
def QF:=@Nat.lt_succ_self
def QG:=@List.map_cons
def QH:=@Nat.add_assoc
def QI:=@Nat.le_succ_of_le
def QJ:=@decide_eq_decide
def QK:=@List.nodup_cons
def QL:=@Nat.le_of_lt_succ
def QM:=@List.map_congr_left
def QN:=@Nat.lt_of_le_of_ne
def QO:=@List.mem_of_getElem?
def QP:=@List.mem_of_mem_take
def QQ:=@List.mem_of_mem_drop
def QR:=@propext
def QS:=@List.getElem?_map
def QT:=@List.length_range
def QU:=@Nat.le_of_not_lt
def QV:=@Heap.get?_push_size
def QW:=@Bool.and_eq_true
def QX:=@List.lookup_cons
def QY:=@Nat.le_max_left
def QZ:=@Option.map_eq_some_iff
def Q0:=@Nat.lt_trans
def Q3:=@Option.isSome_iff_exists
def Q4:=@List.isEmpty_iff
def Q5:=@Nat.sub_add_cancel
def Q6:=@Bool.false_eq_true
def Q7:=@wpAny_standAt
def Q8:=@List.nodup_append
def Q9:=@Nat.ne_of_lt
def Ra:=@Nat.succ_pos
def Rb:=@Int.natCast_nonneg
def Rc:=@Array.getElem?_toList
def Rd:=@Nat.le_max_right
def Rf:=@Classical.byContradiction
def Rg:=@Nat.le_of_succ_le_succ
def Rh:=@Nat.zero_add
def Ri:=@Nat.lt_of_succ_lt_succ
def Rj:=@List.flatMap_singleton
def Rl:=@Nat.zero_testBit
def Rm:=@List.take_append_drop
def Rn:=@List.take_succ_eq_append_getElem
def Ro:=@Array.mem_toList_iff
def Rp:=@of_decide_eq_false
def Rq:=@List.getElem_mem
def Rr:=@List.length_drop
def Rs:=@List.mem_flatMap
def Rt:=@List.filterMap_cons
def Ru:=@Nat.exists_eq_add_of_le'
def Rv:=@mem_of_lookup
def Rw:=@List.Perm.swap
def Rx:=@and_congr_right
def Ry:=@List.prefix_refl
def Rz:=@Bool.or_false
def RA:=@Classical.em
def RB:=@beq_eq_false_iff_ne
def RC:=@List.sum_append
def RD:=@Or.elim
def RE:=@List.drop_eq_getElem_cons
def RF:=@Heap.get?_update_self
def RH:=@Nat.max_le
def RI:=@List.length_cons
def RJ:=@List.pairwise_cons
def RK:=@List.length_take
def RM:=@Heap.lt_size
def RN:=@Nat.lt_irrefl
def RP:=@Nat.add_comm
def RQ:=@Bool.or_eq_false_iff
def RS:=@List.drop_left
def RT:=@congrFun
def RV:=@List.drop_append_of_le_length
def RW:=@List.length_eq_zero_iff
def RX:=@Nat.lt_succ_of_lt
def RY:=@Nat.lt_add_of_pos_right
def RZ:=@List.pairwise_singleton
def R0:=@Nat.le_of_succ_le
def R3:=@Heap.SameBut.update
def R4:=@List.map_eq_nil_iff
def R5:=@List.take_of_length_le
def R6:=@List.any_cons
def R7:=@List.map_take
def R8:=@List.append_cons
def R9:=@List.drop_length
def Sa:=@Nat.pos_of_ne_zero
def Sb:=@List.findIdx?_cons
def Sd:=@List.getD_eq_getElem?_getD
def Se:=@List.getElem?_eq_none_iff
def Sf:=@Nat.not_lt_zero
def Sh:=@Nat.testBit_and
def Si:=@Nat.not_succ_le_self
def Sj:=@Nat.not_succ_le_zero
def Sk:=@wpAny_truthy_bool
def Sl:=@Nat.succ.inj
def Sn:=@Nat.sub_self
def So:=@Nat.ne_of_gt
def Sq:=@Prod.mk.inj
def Sr:=@IsL.isList
def Su:=@Int.not_lt
def Sv:=@List.map_drop
def Sw:=@List.mem_range
def Sx:=@wpAny_call_entry
def Sy:=@Nat.add_sub_cancel_left
def Sz:=@Bool.and_false
def SA:=@Bool.false_and
def SB:=@beq_self_eq_true
def SC:=@List.take_length
def SD:=@Nat.succ_lt_succ
def SE:=@Int.ofNat_le
def SF:=@Int.le_trans
def SG:=@List.drop_of_length_le
def SH:=@List.length_take_of_le
def SI:=@Bool.not_eq_false'
def SJ:=@List.forIn_cons
def SK:=@List.length_nil
def SL:=@List.getElem?_eq_none
def SM:=@Array.getD_eq_getD_getElem?
def SN:=@List.size_toArray
def SO:=@getMethod_builtin
def SP:=@decide_eq_true_eq
def SQ:=@List.idxOf_lt_length_of_mem
def SR:=@List.nodup_nil
def SS:=@Nat.one_pos
def ST:=@Nat.sub_succ_lt_self
def SU:=@List.perm_ext_iff_of_nodup
def SV:=@Nat.le_sub_one_of_lt
def SW:=@Nat.le_of_add_le_add_right
def SX:=@Ne.symm
def SY:=@decide_false
def SZ:=@Nat.lt_of_not_le
def S0:=@or_iff_right
def S3:=@Option.isNone_iff_eq_none
def S4:=@List.sublist_append_right
def S5:=@Array.length_toList
def S6:=@Nat.sub_le_sub_left
def S7:=@Option.some_ne_none
def S8:=@List.mergeSort_perm
def S9:=@wpAny_specialOf
def Ta:=@KasT.kasWp_bind
def Tb:=@wpAny_execs_nil
def Tc:=@Nat.min_eq_left
def Td:=@Int.natCast_pos
def Te:=@Nat.sub_lt
def Tf:=@wpAny_callSpecial?_slot
def Tg:=@Int.le_refl
def Th:=@List.findIdx?_eq_some_iff_getElem
def Ti:=@Nat.le_pred_of_lt
def Tj:=@F.slot_tuple_hash
def Tk:=@if_false
def Tl:=@List.map_nil
def To:=@List.pairwise_map
def Tq:=@wpAny_assign_Name
def Ts:=@List.Sublist.refl
def Tt:=@List.sublist_cons_self
def Tu:=@Int.toNat_natCast
def Tv:=@or_congr_right
def Tw:=@List.foldl_append
def Tx:=@List.drop_zero
def Tz:=@List.length_filter_le
def TA:=@StrLaws.glued_eq_join
def TC:=@List.mem_iff_getElem?
def TD:=@look_both
def TF:=@Nat.not_lt
def TG:=@Nat.sub_le
def TH:=@List.perm_middle
def TI:=@List.sum_cons
def TJ:=@Bool.and_true
def TK:=@Bool.true_and
def TL:=@List.forall_mem_cons
def TM:=@Nat.eq_of_testBit_eq
def TN:=@F.slot_dict_get
def TP:=@Nat.max_eq_left
def TQ:=@List.any_append
def TR:=@Nat.add_sub_cancel'
def TS:=@List.length_pos_iff
def TT:=@Int.le_of_lt
def TU:=@List.getElem?_concat_length
def TX:=@iff_of_false
def TZ:=@List.any_nil
def T0:=@piece_app
def T3:=@slot_dict_contains
def T4:=@Obj.isFreed_of_seq
def T5:=@F.slot_list_append
def T6:=@List.getElem_range
def T7:=@Calls.Name_function_global
def T8:=@List.zip_cons_cons
def T9:=@Option.isNone_eq_false_iff
def Ua:=@List.getElem_idxOf
def Ub:=@Nat.testBit_or
def Uc:=@Int.add_sub_cancel
def Ud:=@List.mem_cons_self
def Ue:=@Nat.lt_of_mul_lt_mul_left
def Uf:=@List.findIdx?_eq_none_iff
def Ug:=@Array.getElem?_eq_getElem
def Uh:=@List.pairwise_iff_getElem
def Ui:=@Decidable.byContradiction
def Uj:=@Array.toList_push
def Uk:=@wpAny_sequenceKey
def Ul:=@Iff.rfl
def Um:=@Prod.mk.injEq
def Un:=@wpAny_getItem_list_slice
def Uo:=@wpAny_newList
def Uq:=@wpAny_comprehension_free
def Ur:=@Nat.succ_add_eq_add_succ
def Ut:=@List.take_nil
def Uu:=@Bool.or_assoc
def Uv:=@markedBehindIn_of_false
def Uw:=@List.cons_append
def Ux:=@List.filter_cons_of_neg
def Uy:=@List.filter_cons_of_pos
def Uz:=@List.lookup_eq_some_iff
def UA:=@Nat.succ_ne_zero
def UB:=@List.Perm.eq_nil
def UC:=@Option.map_eq_none_iff
def UD:=@Int.ofNat_lt
def UE:=@Calls.callWith_builtin
def UF:=@Nat.testBit_lt_two_pow
def UG:=@Bool.or_true
def UH:=@clipAt_nat
def UI:=@Nat.eq_zero_of_not_pos
def UJ:=@List.append_eq_nil_iff
def UK:=@Nat.le_mul_of_pos_left
def UL:=@Nat.succ_mul
def UM:=@SeqAt.canLay_of_shaped
def UN:=@Int.le_antisymm
def UO:=@wpAny_operating
def UP:=@Bool.or_eq_true
def UQ:=@Nat.ble_eq_true_of_le
def UR:=@Nat.sub_eq_zero_of_le
def US:=@Prod.ext
def UT:=@F.args_list_append_2
def UU:=@List.mem_iff_getElem
def UV:=@Heap.size_push
def UW:=@Nat.sub_le_sub_right
def UX:=@wpAny_newTuple
def UY:=@wpAny_letTemporaryGo
def UZ:=@List.drop_eq_nil_iff
def U7:=@List.map_id
def U9:=@Nat.pow_le_pow_right
def Vb:=@Nat.sub_one_lt
def Vc:=@F.entry_list_append
def Vd:=@Heap.get?_update_ne
def Ve:=@wpAny_Assign_stores
def Vf:=@List.length_take_le
def Vg:=@Nat.testBit_two_pow
def Vh:=@Nat.add_lt_add_left
def Vi:=@List.drop_nil
def Vj:=@forall_congr'
def Vk:=@Array.forIn_toList
def Vl:=@decide_not
def Vm:=@F.slot_list_extend
def Vn:=@Int.lt_of_le_of_lt
def Vo:=@List.prefix_append
def Vp:=@List.length_zipIdx
def Vq:=@List.filter_append
def Vr:=@Int.sub_add_cancel
def Vt:=@List.getElem?_drop
def Vu:=@exists_congr
def Vv:=@Nat.sub_zero
def Vw:=@plainGet_of
def Vx:=@Nat.le_zero
def Vy:=@wpAny_rule
def Vz:=@call_meets
def VA:=@Int.not_le
def VB:=@Nat.not_le
theorem VC{a b:Prop}(h:a)(k:¬a):b:=absurd h k
end
section
open PyProof.Rows
mutual
noncomputable abbrev ft:Program:=PySem.Challenge.pw_rh0134_01
noncomputable def aM(P:Params)(k:Str)(t:Tok)(v:Value):DictEntry:=⟨PyData.keyHash P k,.str k t,v⟩
noncomputable def fH(i n:Nat):List Stmt:=(ft.main.body.drop i).take n
noncomputable def C9(i:Nat):Stmt:=(ft.main.body[i]?).getD (.Pass ⟨0,0,0,0⟩)
noncomputable def L6(n:Str):Stmt->Bool
 |.FunctionDef m ..=>m==n
 |_=>false
noncomputable def IJ(i:Nat)(n:Str):Stmt:=match C9 i with
 |.ClassDef _ _ _ b _ _ _ _ _ _ _=>(b.find? (L6 n)).getD (.Pass ⟨0,0,0,0⟩)
 |s=>s
noncomputable def H5(st:Stmt)(l:Str)(dflt j code:Value):Data:=match st with
 |.FunctionDef name n body _ _ _ scope _ _ _=>.func {name:=name,qualname:=l,params:=n,body:=.stmts body,scope:=scope,globals:=3,closure:=[],defaults:=dflt,kwdefaults:=.none,doc:=.none,pyModule:=j,annotations:=none,code:=code,closureTuple:=.none,builtins:=0}
 |_=>.plain
noncomputable def Pq(st:Stmt)(l:Str)(dflt j code:Value):Obj:=⟨.type "function",none,H5 st l dflt j code,#[]⟩
noncomputable def GS(l:X9):Array Value:=l.toArray
noncomputable def N7(st:Stmt)(G:Str)(t x a:Nat)(b:Bool):Obj:=match st with
 |.FunctionDef n g _ _ _ _ _ _ _ p=>⟨.type "code",none,.fields (GS ([.str n t,.str G (t+1),.str "/claim/cut.py" (t+2),.int p.line 0,.int g.args.length 0,.int 0 0,.int 0 0,.int 3 0,.ref (a-cond b 5 3),.bool true,.int 181 0,.ref (a-cond b 4 2),.none]++(cond b [.ref (a-3),.ref (a-2)] [.none,.none]++[.ref (a-1),.int (t+x) 0,.int p.line 0,.str "/claim/cut.py" (t+x+1)]))),#[]⟩
 |_=>⟨.none,none,.plain,#[]⟩
noncomputable def LS(b:Bool)(a:Nat)(st:Stmt)(G:Str)(t y:Nat)(o x:Value):Frag:=[(a,N7 st G t y a b),(a+1,Pq st G o x (.ref a))]
noncomputable def aL(b:Bool)(a i t y:Nat)(o x:Value):Frag:=LS b a (C9 i) (match C9 i with|.FunctionDef n ..=>n|_=>"") t y o x
noncomputable def HU(i:Nat):Str:=match C9 i with
 |.ClassDef c ..=>c
 |_=>""
noncomputable def bK(b:Bool)(a i:Nat)(n:Str)(t y:Nat)(o x:Value):Frag:=LS b a (IJ i n) (HU i++"." ++n) t y o x
noncomputable def gR(n:Str)(a:Nat)(g mro:X9)(ns:Nat)(I:X9)(x:X8)(t u:Nat)(j:String):Obj:=⟨.type "type",none,.cls {name:=n,bases:=g,mro:=.ref a::mro,ns:=ns,qualname:=n,subclasses:=I},#[x,none,some (.str n t),some (.str n u),some (.builtin j),some (.bool true)]⟩
noncomputable def jH(l:List DictEntry)(n:Nat):Obj:=⟨.type "dict",none,.dict l.toArray n,#[]⟩
noncomputable def cU(l:X9):Obj:=⟨.type "tuple",none,.seq l.toArray 0,#[]⟩
noncomputable abbrev LQ:Value:=(.str "__main__" 164)
noncomputable abbrev EC:Value:=(.str "kindkeep.nodes" 194)
noncomputable abbrev n8:Value:=(.str "kindkeep.diags" 289)
noncomputable abbrev dI:Value:=(.str "kindkeep.types" 467)
noncomputable abbrev jE:Value:=(.str "kindkeep.typeops" 885)
noncomputable abbrev dk:Value:=(.str "kindkeep.decls" 1066)
noncomputable abbrev ji:Value:=(.str "kindkeep.decltypes" 1455)
noncomputable abbrev hO:Value:=(.str "kindkeep.hosts" 1781)
noncomputable abbrev gG:Value:=(.str "law_rh0134_01" 1973)
noncomputable def AN:Env:={scope:=ft.main.scope,locals:=3,globals:=3,cells:=[],code:=.ref 13,frame:=some 14}
noncomputable def cM:Code:=.body (behindTheImports ft) AN
noncomputable def rA:Pos:=⟨0,0,0,0⟩
noncomputable def Dm(P:Params)(h:Value):List DictEntry:=[aM P "__name__" 165 h,aM P "__doc__" 166 .none,aM P "__package__" 167 .none,aM P "__loader__" 168 (.builtin "__main__.__loader__#opaque"),aM P "__spec__" 169 .none,aM P "__annotations__" 170 (.ref 6),aM P "__builtins__" 171 (.ref 4),aM P "__file__" 173 (.str "/claim/cut.py" 172),aM P "__cached__" 174 .none]
abbrev MT:Type:=Str×Tok×Value
noncomputable def Oo:List MT:=([("_wall",193,.ref 21),("K_NUM",197,.int 1 196),("K_STR",199,.int 2 198),("K_TRUE",201,.int 4 200),("K_FALSE",203,.int 5 202),("K_UNARY",205,.int 21 204),("K_TKEY",207,.int 80 206),("K_TREF",209,.int 81 208),("K_TLIT",211,.int 82 210),("K_TUNION",213,.int 83 212),("K_TINTER",215,.int 84 214),("K_TARRAY",217,.int 85 216),("K_TTUPLE",219,.int 86 218),("K_TELEM",221,.int 87 220),("K_TINFER",223,.int 93 222),("K_TREADONLY",225,.int 97 224),("K_TPAREN",227,.int 98 226),("F_OPT",229,.int 4096 228),("F_REST",231,.int 8192 230),("Node",269,.ref 38),("flagged",280,.ref 49),("has",288,.ref 56),("KeepError",321,.ref 74),("TooDeep",350,.ref 95),("HostFault",377,.ref 115),("Diag",419,.ref 141),("Diags",466,.ref 175),("Y_KEY",470,.int 1 469),("Y_BOOL",472,.int 2 471),("Y_STR",474,.int 3 473),("Y_NUM",476,.int 4 475),("Y_ENUM",478,.int 5 477)]:List MT)++([("Y_UNION",480,.int 6 479),("Y_INTER",482,.int 7 481),("Y_OBJ",484,.int 8 483),("Y_REF",486,.int 9 485),("Y_PARAM",488,.int 10 487),("Y_ARRAY",490,.int 11 489),("Y_TUPLE",492,.int 12 491),("Y_SIG",494,.int 13 493),("Y_KEYOF",496,.int 14 495),("Y_INDEX",498,.int 15 497),("Y_COND",500,.int 16 499),("Y_MAPPED",502,.int 17 501),("Y_TPL",504,.int 18 503),("Y_ALIAS",506,.int 19 505),("ANY",508,.int 0 507),("UNKNOWN",510,.int 1 509),("NEVER",512,.int 2 511),("VOID",514,.int 3 513),("UNDEF",516,.int 4 515),("NULLT",518,.int 5 517),("STRING",520,.int 6 519),("NUMBER",522,.int 7 521),("FALSE_T",524,.int 8 523),("TRUE_T",526,.int 9 525),("OBJECTT",528,.int 10 527),("EMPTY",530,.int 11 529),("BOOLEAN",532,.int 12 531),("ERR",534,.int 13 533),("FRESH_F",536,.int 14 535),("FRESH_T",538,.int 15 537),("P_OPT",540,.int 1 539),("E_NEED",542,.int 0 541)]:List MT)++([("E_OPT",544,.int 1 543),("E_REST",546,.int 2 545),("E_SPREAD",548,.int 3 547),("D_OBJALIAS",550,.int 3 549),("FAM_OTHER",552,.int 0 551),("FAM_STR",554,.int 1 553),("FAM_NUM",556,.int 2 555),("FAM_BOOL",558,.int 3 557),("FAM_NULL",560,.int 4 559),("FAM_UNDEF",562,.int 5 561),("FAM_VOID",564,.int 6 563),("FAM_OBJ",566,.int 7 565),("MAX_UNION",568,.int 400 567),("FIRST_ROWS",590,.ref 202),("LITERAL_ROWS",591,.ref 203),("MARKED_ROWS",592,.ref 204),("OBJECT_ROWS",593,.ref 205),("KEY_FAMILIES",600,.ref 206),("TypeTable",655,.ref 237),("kind_of",663,.ref 248),("str_type",673,.ref 256),("num_type",683,.ref 264),("array_type",693,.ref 272),("last_mark",703,.ref 279),("needed_to_last",716,.ref 286),("one_rest",730,.ref 293),("tuple_type",737,.ref 299),("new_param",752,.ref 307),("parts_of",761,.ref 314),("whole_of_row",769,.ref 321),("regular_twin",778,.ref 328),("join_bools",785,.ref 335)]:List MT)++([("stays_beside",794,.ref 342),("top_of",802,.ref 349),("union",808,.ref 354),("add_undef",816,.ref 361),("is_literal",824,.ref 368),("is_unit",832,.ref 375),("is_fresh",841,.ref 382),("regular_one",849,.ref 389),("common_family",855,.ref 394),("meet_family",866,.ref 401),("family",877,.ref 408),("is_nullish_family",884,.ref 415),("MAX_DRAWN",888,.int 200 887),("MEET_NEVER",890,.int 0 889),("MEET_LEFT",892,.int 1 891),("MEET_RIGHT",894,.int 2 893),("MEET_BOTH",896,.int 3 895),("all_units",902,.ref 420),("value_literal",911,.ref 427),("kinds_apart",920,.ref 434),("units_clash",926,.ref 439),("known_decl",934,.ref 446),("body_props",943,.ref 453),("flat_props",960,.ref 460),("shapes_clash",966,.ref 465),("meet_nullish",976,.ref 472),("meet_values",987,.ref 479),("meet_objects",998,.ref 486),("meet_case",1009,.ref 493),("lay_on",1022,.ref 500),("members_of_meet",1032,.ref 507),("meet_parts",1038,.ref 512)]:List MT)++([("meet_two",1054,.ref 519),("inter",1065,.ref 526),("MOST_LEVELS",1069,.int 60 1068),("LATER_REST",1071,.int 9 1070),("Guess",1115,.ref 557),("TypeRule",1144,.ref 578),("Shaper",1200,.ref 620),("Declarer",1246,.ref 655),("Checks",1284,.ref 683),("Namer",1389,.ref 739),("tell",1399,.ref 750),("made_or_err",1409,.ref 757),("type_at_node",1418,.ref 764),("symbol_key",1427,.ref 771),("pid_of",1435,.ref 778),("param_of",1444,.ref 785),("infer_bound",1454,.ref 792),("KEYWORDS",1477,.ref 793),("DecltypesWordRule",1502,.ref 810),("literal_kind",1510,.ref 819),("LiteralRule",1535,.ref 836),("DecltypesParenRule",1560,.ref 855),("install_kind_words",1567,.ref 864),("UnionRule",1589,.ref 879),("InterRule",1611,.ref 896),("install_kind_sets",1618,.ref 905),("DecltypesArrayRule",1643,.ref 922),("is_list",1651,.ref 931),("all_lists",1660,.ref 938),("spread_elems",1666,.ref 943),("has_mark",1675,.ref 950),("put_tuple",1684,.ref 957)]:List MT)++([("elems_of",1693,.ref 964),("order_fault",1703,.ref 971),("tuple_kind",1717,.ref 978),("TupleRule",1742,.ref 995),("readonly_kind",1748,.ref 1002),("ReadonlyRule",1773,.ref 1019),("install_kind_rows",1780,.ref 1028),("MOST_ROUNDS",1784,.int 200 1783),("MOST_SHAPES",1786,.int 40 1785),("Thin",1972,.ref 1171),("_law_masks",1990,.ref 1176),("_law_words",1996,.ref 1183),("_law_keys",2002,.ref 1190),("_law_take",2012,.ref 1197),("_law_flat",2018,.ref 1202),("_law_term",2024,.ref 1207),("_law_kids",2037,.ref 1214),("_law_join",2049,.ref 1221),("_law_text",2055,.ref 1226),("_law_elems",2061,.ref 1231),("_law_value",2067,.ref 1236),("_law_bits",2074,.ref 1243),("_law_read",2080,.ref 1248),("_law_make",2092,.ref 1255),("_law_leaf",2102,.ref 1262),("_law_many",2108,.ref 1267),("_law_fault",2114,.ref 1272),("_law_elem",2123,.ref 1279),("_law_tuple",2129,.ref 1284),("_law_plain",2140,.ref 1291),("_law_write",2152,.ref 1298),("law",2158,.ref 1303)]:List MT)
noncomputable def Er(P:Params):List DictEntry:=Oo.map λx=>aM P x.1 x.2.1 x.2.2
noncomputable def MG(P:Params)(h:Value)(k:Nat):Obj:=⟨.type "dict",none,.dict (Dm P h++(Er P).take k).toArray (k+9),#[]⟩
noncomputable def Oc(P:Params):Obj:=⟨.none,none,(.dict #[aM P "type.__subclasses__.Exception.0" 318 (.int 74 0),aM P "type.__subclasses__.Exception.n" 319 (.int 1 0)] 2),#[]⟩
noncomputable def G6(_P:Params):Obj:=⟨(.type "tuple"),none,(.seq #[] 0),#[]⟩
noncomputable def HI(_P:Params):Obj:=⟨(.type "code"),none,(.fields #[(.str "<module>" 182),(.str "<module>" 183),(.str "/claim/cut.py" 184),(.int 1 0),(.int 0 0),(.int 0 0),(.int 0 0),(.int 0 0),(.ref 11),(.bool false),(.int 181 0),(.ref 12),.none,.none,.none,.none,(.int 185 0),(.int 1 0),(.str "/claim/cut.py" 186)]),#[]⟩
noncomputable def OG(_P:Params):Obj:=⟨(.type "frame"),none,.plain,#[some (.ref 13),some (.ref 3),some (.ref 3),none,some LQ,none,some (.ref 0)]⟩
noncomputable def Lk:V9:=[(1,20),(23,27),(32,48),(34,55),(37,62),(42,83),(47,103),(52,123),(62,151),(129,212),(155,247),(157,255),(159,263),(161,271),(163,278),(169,285),(179,292),(190,298),(198,306),(204,313),(211,320),(220,327),(225,334),(229,341),(233,348),(238,353),(255,360),(257,367),(259,374),(261,381),(264,388),(268,393),(272,400),(281,407),(298,414),(306,419),(309,426),(314,433),(318,438),(327,445),(329,452),(334,459),(353,464),(357,471),(363,478),(373,485),(381,492),(395,499),(409,506),(420,511),(429,518),(445,525),(457,532),(467,567),(471,588),(484,630),(494,665),(501,693),(554,749),(558,756),(573,763),(580,770),(585,777),(587,784),(594,791),(603,799),(607,818),(619,825),(623,844),(627,863),(631,870),(635,887),(639,904),(642,911),(646,930),(648,937),(660,942),(676,949),(681,956),(685,963),(691,970),(699,977),(712,984),(716,1001),(725,1008),(731,1027),(738,1034),(802,1182),(804,1189),(806,1196),(811,1201),(813,1206),(829,1213),(842,1220),(850,1225),(853,1230),(878,1235),(891,1242),(901,1247),(917,1254),(922,1261),(936,1266),(949,1271),(964,1278),(966,1283),(983,1290),(1001,1297),(1011,1302)]
noncomputable def Lh(k:Nat):Obj:=⟨.none,none,.fields (GS ((Lk.take k).flatMap λx=>[.int x.1 0,.int 0 0,.ref x.2])),#[]⟩
noncomputable def NM(_P:Params):Obj:=⟨.none,none,.fields #[],#[]⟩
noncomputable def Hg(P:Params)(b:Bool)(a i:Nat)(t f l m x:Nat):Frag:=bK b a i "made" (t+12) f .none ji++[(a+3,jH [aM P "__module__" (t+7) ji,aM P "__firstlineno__" (t+11) (.int l (t+10)),aM P "made" m (.ref (a+1)),aM P "__static_attributes__" (m+1) (.ref (a+2)),aM P "__doc__" (m+2) .none] 2),(a+4,gR (HU i) (a+4) [(.ref 578)] [(.ref 578),(.type "object")] (a+3) [] (some (.ref x)) t (t+8) "object.__new__")]
noncomputable def KA(P:Params):Frag:=List.flatten [
 aL true 20 0 187 4 .none LQ,
 bK true 34 20 "__init__" 244 9 .none EC,
 [(37,jH [aM P "__module__" 239 EC,aM P "__firstlineno__" 243 (.int 23 242),aM P "__init__" 255 (.ref 35),aM P "__static_attributes__" 262 (.ref 36),aM P "__dict__" 264 (.ref 39),aM P "__weakref__" 266 (.ref 40),aM P "__doc__" 267 .none] 4),(38,gR "Node" 38 [(.type "object")] [(.type "object")] 37 [] (none) 232 240 "object.__new__")],
 aL true 48 21 270 8 .none EC,
 aL true 55 22 281 5 .none EC,
 [(64,cU [(.str "" 303)])],
 bK true 70 24 "__init__" 304 5 (.ref 64) n8,
 [(73,jH [aM P "__module__" 298 n8,aM P "__firstlineno__" 302 (.int 37 301),aM P "__init__" 311 (.ref 71),aM P "__static_attributes__" 314 (.ref 72),aM P "__weakref__" 316 (.ref 75),aM P "__doc__" 317 .none] 3),(74,gR "KeepError" 74 [(.type "Exception")] [(.type "Exception"),(.type "BaseException"),(.type "object")] 73 [(.ref 95),(.ref 115)] (some (.ref 57)) 291 299 "Exception.__new__"),(85,cU [(.int 2589 334),(.str "" 335)])],
 bK true 91 25 "__init__" 336 6 (.ref 85) n8,
 [(94,jH [aM P "__module__" 329 n8,aM P "__firstlineno__" 333 (.int 42 332),aM P "__init__" 344 (.ref 92),aM P "__static_attributes__" 347 (.ref 93),aM P "__doc__" 348 .none] 2),(95,gR "TooDeep" 95 [(.ref 74)] [(.ref 74),(.type "Exception"),(.type "BaseException"),(.type "object")] 94 [] (some (.ref 78)) 322 330 "Exception.__new__"),(105,cU [(.str "" 363)])],
 bK true 111 26 "__init__" 364 5 (.ref 105) n8,
 [(114,jH [aM P "__module__" 358 n8,aM P "__firstlineno__" 362 (.int 47 361),aM P "__init__" 371 (.ref 112),aM P "__static_attributes__" 374 (.ref 113),aM P "__doc__" 375 .none] 2),(115,gR "HostFault" 115 [(.ref 74)] [(.ref 74),(.type "Exception"),(.type "BaseException"),(.type "object")] 114 [] (some (.ref 98)) 351 359 "Exception.__new__")],
 bK true 130 27 "__init__" 390 8 .none n8,
 bK true 137 27 "row" 401 4 .none n8,
 [(140,jH [aM P "__module__" 385 n8,aM P "__firstlineno__" 389 (.int 52 388),aM P "__init__" 400 (.ref 131),aM P "row" 407 (.ref 138),aM P "__static_attributes__" 412 (.ref 139),aM P "__dict__" 414 (.ref 142),aM P "__weakref__" 416 (.ref 143),aM P "__doc__" 417 .none] 4),(141,gR "Diag" 141 [(.type "object")] [(.type "object")] 140 [] (none) 378 386 "object.__new__"),(153,cU [(.str "" 432)])],
 bK true 159 28 "__init__" 433 5 (.ref 153) n8,
 bK true 166 28 "put" 441 7 .none n8,
 bK false 171 28 "numbers" 451 3 .none n8,
 [(174,jH [aM P "__module__" 427 n8,aM P "__firstlineno__" 431 (.int 62 430),aM P "__init__" 440 (.ref 160),aM P "put" 450 (.ref 167),aM P "numbers" 456 (.ref 172),aM P "__static_attributes__" 459 (.ref 173),aM P "__dict__" 461 (.ref 176),aM P "__weakref__" 463 (.ref 177),aM P "__doc__" 464 .none] 4),(175,gR "Diags" 175 [(.type "object")] [(.type "object")] 174 [] (none) 420 428 "object.__new__"),(180,cU [(.int 1 469),(.str "any" 569)]),(181,cU [(.int 1 469),(.str "unknown" 570)]),(182,cU [(.int 1 469),(.str "never" 571)]),(183,cU [(.int 1 469),(.str "void" 572)]),(184,cU [(.int 1 469),(.str "undefined" 573)]),(185,cU [(.int 1 469),(.str "null" 574)]),(186,cU [(.int 1 469),(.str "string" 575)]),(187,cU [(.int 1 469),(.str "number" 576)]),(188,cU [(.int 2 471),(.int 0 577),(.int 0 578)]),(189,cU [(.int 2 471),(.int 1 579),(.int 0 580)]),(190,cU [(.int 1 469),(.str "object" 581)]),(191,cU []),(192,cU []),(193,cU []),(194,cU []),(195,cU []),(196,cU [(.int 8 483),(.ref 191),(.ref 192),(.ref 193),(.ref 194),(.ref 195),(.int 0 582)]),(197,cU [(.int 8 583),(.int 9 584)]),(198,cU [(.int 6 479),(.ref 197)]),(199,cU [(.int 1 469),(.str "error" 585)]),(200,cU [(.int 2 471),(.int 0 586),(.int 1 587)]),(201,cU [(.int 2 471),(.int 1 588),(.int 1 589)]),(202,cU [(.ref 180),(.ref 181),(.ref 182),(.ref 183),(.ref 184),(.ref 185),(.ref 186),(.ref 187),(.ref 188),(.ref 189),(.ref 190),(.ref 196),(.ref 198),(.ref 199),(.ref 200),(.ref 201)]),(203,cU [(.int 2 471),(.int 3 473),(.int 4 475),(.int 5 477)]),(204,cU [(.int 2 471),(.int 3 473),(.int 4 475),(.int 5 477),(.int 8 483)]),(205,cU [(.int 8 483),(.int 9 485),(.int 11 489),(.int 12 491),(.int 13 493)])]]
noncomputable def KC(P:Params):Frag:=List.flatten [
 bK true 219 85 "__init__" 613 5 .none dI,
 bK true 226 85 "row" 621 5 .none dI,
 bK true 233 85 "put" 629 6 .none dI,
 [(236,jH [aM P "__module__" 608 dI,aM P "__firstlineno__" 612 (.int 129 611),aM P "__init__" 620 (.ref 220),aM P "row" 628 (.ref 227),aM P "put" 637 (.ref 234),aM P "__static_attributes__" 648 (.ref 235),aM P "__dict__" 650 (.ref 238),aM P "__weakref__" 652 (.ref 239),aM P "__doc__" 653 .none] 4),(237,gR "TypeTable" 237 [(.type "object")] [(.type "object")] 236 [] (none) 601 609 "object.__new__")],
 aL true 247 86 656 5 .none dI,
 [(249,cU [(.int 0 664)])],
 aL true 255 87 665 6 (.ref 249) dI,
 [(257,cU [(.int 0 674)])],
 aL true 263 88 675 6 (.ref 257) dI,
 [(265,cU [(.int 0 684)])],
 aL true 271 89 685 6 (.ref 265) dI,
 aL true 278 90 694 7 .none dI,
 aL true 285 91 704 10 .none dI,
 aL true 292 92 717 11 .none dI,
 [(294,cU [(.int 0 731)])],
 aL false 298 93 732 3 (.ref 294) dI,
 [(300,cU [(.int (-1) 739),(.int (-1) 741)])],
 aL true 306 94 742 8 (.ref 300) dI,
 aL true 313 95 753 6 .none dI,
 aL true 320 96 762 5 .none dI,
 aL true 327 97 770 6 .none dI,
 aL true 334 98 779 4 .none dI,
 aL true 341 99 786 6 .none dI,
 aL true 348 100 795 5 .none dI,
 aL false 353 101 803 3 .none dI,
 aL true 360 102 809 5 .none dI,
 aL true 367 103 817 5 .none dI,
 aL true 374 104 825 5 .none dI,
 aL true 381 105 833 6 .none dI,
 aL true 388 106 842 5 .none dI,
 aL false 393 107 850 3 .none dI,
 aL true 400 108 856 8 .none dI,
 aL true 407 109 867 8 .none dI,
 aL true 414 110 878 4 .none dI,
 aL false 419 117 897 3 .none jE,
 aL true 426 118 903 6 .none jE,
 aL true 433 119 912 6 .none jE,
 aL false 438 120 921 3 .none jE,
 aL true 445 121 927 5 .none jE,
 aL true 452 122 935 6 .none jE,
 aL true 459 123 944 14 .none jE,
 aL false 464 124 961 3 .none jE,
 aL true 471 125 967 7 .none jE,
 aL true 478 126 977 8 .none jE,
 aL true 485 127 988 8 .none jE,
 aL true 492 128 999 8 .none jE,
 aL true 499 129 1010 10 .none jE,
 aL true 506 130 1023 7 .none jE,
 aL false 511 131 1033 3 .none jE,
 aL true 518 132 1039 13 .none jE,
 aL true 525 133 1055 8 .none jE]
noncomputable def MV(P:Params):Frag:=List.flatten [
 bK true 539 137 "of_expr" 1084 5 .none dk,
 bK true 546 137 "of_return" 1092 5 .none dk,
 bK true 553 137 "of_name" 1100 5 .none dk,
 [(556,jH [aM P "__module__" 1079 dk,aM P "__firstlineno__" 1083 (.int 457 1082),aM P "of_expr" 1091 (.ref 540),aM P "of_return" 1099 (.ref 547),aM P "of_name" 1107 (.ref 554),aM P "__static_attributes__" 1108 (.ref 555),aM P "__dict__" 1110 (.ref 558),aM P "__weakref__" 1112 (.ref 559),aM P "__doc__" 1113 .none] 4),(557,gR "Guess" 557 [(.type "object")] [(.type "object")] 556 [] (none) 1072 1080 "object.__new__")],
 bK true 574 138 "made" 1128 6 .none dk,
 [(577,jH [aM P "__module__" 1123 dk,aM P "__firstlineno__" 1127 (.int 467 1126),aM P "made" 1136 (.ref 575),aM P "__static_attributes__" 1137 (.ref 576),aM P "__dict__" 1139 (.ref 579),aM P "__weakref__" 1141 (.ref 580),aM P "__doc__" 1142 .none] 4)],
 bK true 595 139 "__init__" 1157 4 .none dk,
 bK true 602 139 "sig" 1164 6 .none dk,
 bK true 609 139 "members" 1173 7 .none dk,
 bK true 616 139 "word" 1183 6 .none dk,
 [(619,jH [aM P "__module__" 1152 dk,aM P "__firstlineno__" 1156 (.int 471 1155),aM P "__init__" 1163 (.ref 596),aM P "sig" 1172 (.ref 603),aM P "members" 1182 (.ref 610),aM P "word" 1191 (.ref 617),aM P "__static_attributes__" 1193 (.ref 618),aM P "__dict__" 1195 (.ref 621),aM P "__weakref__" 1197 (.ref 622),aM P "__doc__" 1198 .none] 4),(620,gR "Shaper" 620 [(.type "object")] [(.type "object")] 619 [] (none) 1145 1153 "object.__new__")],
 bK true 637 140 "run" 1213 6 .none dk,
 bK true 644 140 "settle" 1222 6 .none dk,
 bK true 651 140 "renew" 1231 5 .none dk,
 [(654,jH [aM P "__module__" 1208 dk,aM P "__firstlineno__" 1212 (.int 484 1211),aM P "run" 1221 (.ref 638),aM P "settle" 1230 (.ref 645),aM P "renew" 1238 (.ref 652),aM P "__static_attributes__" 1239 (.ref 653),aM P "__dict__" 1241 (.ref 656),aM P "__weakref__" 1243 (.ref 657),aM P "__doc__" 1244 .none] 4),(655,gR "Declarer" 655 [(.type "object")] [(.type "object")] 654 [] (none) 1201 1209 "object.__new__")],
 bK true 672 141 "run" 1259 5 .none dk,
 bK true 679 141 "lacks" 1267 7 .none dk,
 [(682,jH [aM P "__module__" 1254 dk,aM P "__firstlineno__" 1258 (.int 494 1257),aM P "run" 1266 (.ref 673),aM P "lacks" 1276 (.ref 680),aM P "__static_attributes__" 1277 (.ref 681),aM P "__dict__" 1279 (.ref 684),aM P "__weakref__" 1281 (.ref 685),aM P "__doc__" 1282 .none] 4),(683,gR "Checks" 683 [(.type "object")] [(.type "object")] 682 [] (none) 1247 1255 "object.__new__")],
 bK true 700 142 "__init__" 1297 7 .none dk,
 bK true 707 142 "type_of" 1307 5 .none dk,
 bK true 714 142 "sig_of" 1315 5 .none dk,
 bK true 721 142 "members" 1323 6 .none dk,
 bK true 728 142 "declare_all" 1332 5 .none dk,
 bK true 735 142 "check_bounds" 1340 4 .none dk,
 [(738,jH [aM P "__module__" 1292 dk,aM P "__firstlineno__" 1296 (.int 501 1295),aM P "__init__" 1306 (.ref 701),aM P "type_of" 1314 (.ref 708),aM P "sig_of" 1322 (.ref 715),aM P "members" 1331 (.ref 722),aM P "declare_all" 1339 (.ref 729),aM P "check_bounds" 1346 (.ref 736),aM P "__static_attributes__" 1382 (.ref 737),aM P "__dict__" 1384 (.ref 740),aM P "__weakref__" 1386 (.ref 741),aM P "__doc__" 1387 .none] 4),(739,gR "Namer" 739 [(.type "object")] [(.type "object")] 738 [] (none) 1285 1293 "object.__new__")],
 aL true 749 143 1390 7 .none dk,
 aL true 756 144 1400 7 .none dk,
 aL true 763 145 1410 6 .none dk,
 aL true 770 146 1419 6 .none dk,
 aL true 777 147 1428 5 .none dk,
 aL true 784 148 1436 6 .none dk,
 aL true 791 149 1445 7 .none dk]
noncomputable def KE(P:Params):Frag:=List.flatten [
 Hg P true 806 152 1478 6 603 1498 794,
 aL true 818 153 1503 5 .none ji,
 Hg P true 832 154 1511 6 619 1531 820,
 Hg P true 851 155 1536 6 623 1556 839,
 aL true 863 156 1561 4 .none ji,
 Hg P false 875 157 1568 3 631 1585 865,
 Hg P false 892 158 1590 3 635 1607 882,
 aL true 904 159 1612 4 .none ji,
 Hg P true 918 160 1619 6 642 1639 906,
 aL true 930 161 1644 5 .none ji,
 aL true 937 162 1652 6 .none ji,
 aL false 942 163 1661 3 .none ji,
 aL true 949 164 1667 6 .none ji,
 aL true 956 165 1676 6 .none ji,
 aL true 963 166 1685 6 .none ji,
 aL true 970 167 1694 7 .none ji,
 aL true 977 168 1704 11 .none ji,
 Hg P true 991 169 1718 6 712 1738 979,
 aL false 1001 170 1743 3 .none ji,
 Hg P true 1015 171 1749 6 725 1769 1003,
 aL true 1027 172 1774 4 .none ji]
noncomputable def KQ(P:Params):Frag:=List.flatten [
 bK true 1041 176 "__init__" 1799 5 .none hO,
 bK true 1048 176 "force" 1807 5 .none hO,
 bK true 1055 176 "put_deferred" 1815 5 .none hO,
 bK true 1062 176 "put_cond" 1823 6 .none hO,
 bK true 1069 176 "lay_row" 1832 6 .none hO,
 bK true 1076 176 "bound" 1841 5 .none hO,
 bK true 1083 176 "shape" 1849 5 .none hO,
 bK true 1090 176 "fits" 1857 6 .none hO,
 bK true 1097 176 "lies" 1866 6 .none hO,
 bK true 1104 176 "infers" 1875 7 .none hO,
 bK true 1111 176 "tpl_fits" 1885 6 .none hO,
 bK true 1118 176 "shape_fits" 1894 6 .none hO,
 bK true 1125 176 "put_in" 1903 6 .none hO,
 bK true 1132 176 "own_sig" 1912 6 .none hO,
 bK true 1139 176 "forget" 1921 4 .none hO,
 bK true 1146 176 "list_prop" 1928 6 .none hO,
 bK true 1153 176 "list_index" 1937 5 .none hO,
 bK true 1160 176 "elem_met" 1945 5 .none hO,
 bK true 1167 176 "error_class" 1953 4 .none hO,
 [(1170,jH [aM P "__module__" 1794 hO,aM P "__firstlineno__" 1798 (.int 738 1797),aM P "__init__" 1806 (.ref 1042),aM P "force" 1814 (.ref 1049),aM P "put_deferred" 1822 (.ref 1056),aM P "put_cond" 1831 (.ref 1063),aM P "lay_row" 1840 (.ref 1070),aM P "bound" 1848 (.ref 1077),aM P "shape" 1856 (.ref 1084),aM P "fits" 1865 (.ref 1091),aM P "lies" 1874 (.ref 1098),aM P "infers" 1884 (.ref 1105),aM P "tpl_fits" 1893 (.ref 1112),aM P "shape_fits" 1902 (.ref 1119),aM P "put_in" 1911 (.ref 1126),aM P "own_sig" 1920 (.ref 1133),aM P "forget" 1927 (.ref 1140),aM P "list_prop" 1936 (.ref 1147),aM P "list_index" 1944 (.ref 1154),aM P "elem_met" 1952 (.ref 1161),aM P "error_class" 1959 (.ref 1168),aM P "__static_attributes__" 1965 (.ref 1169),aM P "__dict__" 1967 (.ref 1172),aM P "__weakref__" 1969 (.ref 1173),aM P "__doc__" 1970 .none] 4),(1171,gR "Thin" 1171 [(.type "object")] [(.type "object")] 1170 [] (none) 1787 1795 "object.__new__"),(1176,cU [(.int 1 1975),(.int 2 1976),(.int 4 1977),(.int 8 1978),(.int 16 1979),(.int 32 1980),(.int 128 1981),(.int 256 1982),(.int 896 1983),(.int 112 1984),(.int 12 1985),(.int 1025 1986),(.int 2048 1987),(.int 8191 1988),(.int 0 1989)])],
 aL true 1182 179 1991 3 .none gG,
 aL true 1189 180 1997 3 .none gG,
 aL true 1196 181 2003 7 .none gG,
 aL false 1201 182 2013 3 .none gG,
 aL false 1206 183 2019 3 .none gG,
 aL true 1213 184 2025 10 .none gG,
 aL true 1220 185 2038 9 .none gG,
 aL false 1225 186 2050 3 .none gG,
 aL false 1230 187 2056 3 .none gG,
 aL false 1235 188 2062 3 .none gG,
 aL true 1242 189 2068 4 .none gG,
 aL false 1247 190 2075 3 .none gG,
 aL true 1254 191 2081 9 .none gG,
 aL true 1261 192 2093 7 .none gG,
 aL false 1266 193 2103 3 .none gG,
 aL false 1271 194 2109 3 .none gG,
 aL true 1278 195 2115 6 .none gG,
 aL false 1283 196 2124 3 .none gG,
 aL true 1290 197 2130 8 .none gG,
 aL true 1297 198 2141 9 .none gG,
 [(1300,⟨.none,none,(.fields #[]),#[]⟩)],
 aL false 1302 199 2153 3 .none gG]
noncomputable def kB(P:Params):Frag:=[(206,jH [⟨3,(.int 3 513),(.int 6 563)⟩,⟨4,(.int 4 515),(.int 5 561)⟩,⟨5,(.int 5 517),(.int 4 559)⟩,⟨6,(.int 6 519),(.int 1 553)⟩,⟨7,(.int 7 521),(.int 2 555)⟩,⟨10,(.int 10 527),(.int 7 565)⟩] 6)]
noncomputable def kD(P:Params):Frag:=[(793,jH [aM P "any" 1457 (.int 0 507),aM P "unknown" 1458 (.int 1 509),aM P "never" 1459 (.int 2 511),aM P "void" 1460 (.int 3 513),aM P "undefined" 1461 (.int 4 515),aM P "null" 1462 (.int 5 517),aM P "string" 1463 (.int 6 519),aM P "number" 1464 (.int 7 521),aM P "boolean" 1465 (.int 12 531),aM P "object" 1466 (.int 10 527)] 10)]
noncomputable def LU(_P:Params):Obj:=⟨(.type "type"),none,.cls {name:="TypeRule",bases:=[(.type "object")],mro:=[(.ref 578),(.type "object")],ns:=577,qualname:="TypeRule",subclasses:=[]},#[none,none,some (.str "TypeRule" 1116),some (.str "TypeRule" 1124),some (.builtin "object.__new__"),some (.bool true)]⟩
noncomputable def MB(_P:Params):Obj:=⟨(.type "type"),none,.cls {name:="TypeRule",bases:=[(.type "object")],mro:=[(.ref 578),(.type "object")],ns:=577,qualname:="TypeRule",subclasses:=[(.ref 810),(.ref 836),(.ref 855),(.ref 879),(.ref 896),(.ref 922),(.ref 995),(.ref 1019)]},#[none,none,some (.str "TypeRule" 1116),some (.str "TypeRule" 1124),some (.builtin "object.__new__"),some (.bool true)]⟩
noncomputable def IF(P:Params):Frag:=[(3,boot_o_3 P),(2,boot_o_2 P),(14,OG P),(0,boot_o_0 P),(13,HI P),(1,boot_o_1 P),(4,boot_o_4 P),(5,boot_o_5 P),(6,boot_o_6 P),(7,boot_o_7 P),(8,boot_o_8 P),(9,boot_o_9 P),(10,boot_o_10 P),(11,G6 P),(12,NM P)]
noncomputable def yo(P:Params)(m:Value)(i k:Nat)(r:Frag):Frag:=[(3,MG P m i),(2,Oc P),(14,OG P),(0,boot_o_0 P),(13,HI P),(1,boot_o_1 P),(4,boot_o_4 P),(5,boot_o_5 P),(6,boot_o_6 P),(7,boot_o_7 P),(8,boot_o_8 P),(9,boot_o_9 P),(10,boot_o_10 P),(11,G6 P),(12,Lh k)]++r
noncomputable def lA(P:Params):Frag:=yo P dI 81 9 (KA P)
noncomputable def GY(P:Params):Frag:=kB P++KA P
noncomputable def lB(P:Params):Frag:=yo P dI 82 9 (GY P)
noncomputable def HJ(P:Params):Frag:=KC P++GY P
noncomputable def GV(P:Params):Frag:=yo P dk 132 52 (HJ P)
noncomputable def HT(P:Params):Frag:=MV P++HJ P
noncomputable def lC(P:Params):Frag:=yo P ji 145 65 ((578,LU P)::HT P)
noncomputable def K7(P:Params):Frag:=kD P++HT P
noncomputable def lD(P:Params):Frag:=yo P ji 146 65 ((578,LU P)::K7 P)
noncomputable def G5(P:Params):Frag:=KE P++K7 P
noncomputable def HC(P:Params):Frag:=yo P ji 167 86 ((578,MB P)::G5 P)
noncomputable def lE(P:Params):Frag:=yo P gG 192 108 ((578,MB P)::(KQ P++G5 P))
noncomputable def NP:List Addr:=(lE {strHash:=λ_=>0,shareClass:=id,mergeTok:=id,idOf:=λ_=>0,idOfShared:=λ_ _=>0,followText:=λ_=>true,idOfImm:=λ_=>0}).map (·.1)
noncomputable def ET:Nat->(Nat->Obj)->Nat->Nat->Nat->BT
 |0,_,_,_,_=>.nil
 |k+1,f,n,a,b=>match Nat.blt b n with
  |true=>.node (f b) (ET k f n (2*a) (a+b)) (ET k f n (2*a) (2*a+b))
  |false=>.nil
noncomputable def yZ:Frag->(Nat->Obj)->Nat->Obj
 |[],g,a=>g a
 |p::l,g,a=>match Nat.beq p.1 a with
  |true=>p.2
  |false=>yZ l g a
noncomputable def pO(n a:Nat)(l:Frag)(g:Nat->Obj)(os:OsState):SharedT:=⟨ET 12 (yZ l g) n 1 0,n,{},#[],{},a,os⟩
noncomputable def NA(as:W9)(r:Option (Flow×SharedT×Code×Pos)):Option (Flow×Nat×Life×Array GenState×Drawn×Nat×OsState×Code×Pos×List (Option Obj)):=
 r.map λx=>(x.1,x.2.1.n,x.2.1.life,x.2.1.gens,x.2.1.drawn,x.2.1.toks,x.2.1.os,x.2.2.1,x.2.2.2,as.map x.2.1.tree.get)
noncomputable abbrev MP(w:World)(N:Nat)(s:SharedT)(l:List Stmt)(pos:Pos):Option (Flow×SharedT×Code×Pos):=
 Fast.tw10110043849684766642 Fast.tw14364793385576792824 ft w 11 (some (.ref 6)) 1 N s (piecesOf l AN cM pos [topFrame rA])
noncomputable abbrev dW(w:World)(os:OsState)(N:Nat)(s:SharedT)(l:List Stmt)(pos:Pos)(n a:Nat)(fr:Params->Frag)(u:Pos):Prop:=
 NA ((fr w.params).map (·.1)) (MP w N s l pos)=some (.next,n,{},#[],{},a,os,cM,u,(fr w.params).map λp=>some p.2)
theorem Pf(g:Nat->Obj)(w:World)(os:OsState):dW w os 2403 (pO 15 187 (IF w.params) g os) (fH 0 84) rA 206 594 lA ⟨127,0,127,11⟩:=by unfold dW;kernel_rfl
theorem OZ(g:Nat->Obj):∀(w:World)(os:OsState),dW w os 101 (pO 206 594 (lA w.params) g os) (fH 84 1) ⟨127,0,127,11⟩ 207 601 lB ⟨128,0,128,12⟩:=λw=>
 byRow2 "special-get-raises" (P:=λw=>∀os:OsState,dW w os 101 (pO 206 594 (lA w.params) g os) (fH 84 1) ⟨127,0,127,11⟩ 207 601 lB ⟨128,0,128,12⟩) (λw os=>by unfold dW;kernel_rfl) (λw os=>by unfold dW;kernel_rfl) w
theorem O6(g:Nat->Obj)(w:World)(os:OsState):dW w os 1699 (pO 207 601 (lB w.params) g os) (fH 85 52) ⟨128,0,128,12⟩ 527 1072 GV ⟨456,0,456,10⟩:=by unfold dW;kernel_rfl
theorem It(g:Nat->Obj)(w:World)(os:OsState):dW w os 2017 (pO 527 1072 (GV w.params) g os) (fH 137 14) ⟨456,0,456,10⟩ 793 1457 lC ⟨601,0,601,8⟩:=by unfold dW;kernel_rfl
theorem Pe(g:Nat->Obj):∀(w:World)(os:OsState),dW w os 171 (pO 793 1457 (lC w.params) g os) (fH 151 1) ⟨601,0,601,8⟩ 794 1478 lD ⟨602,0,602,8⟩:=λw=>
 byRow2 "special-get-raises" (P:=λw=>∀os:OsState,dW w os 171 (pO 793 1457 (lC w.params) g os) (fH 151 1) ⟨601,0,601,8⟩ 794 1478 lD ⟨602,0,602,8⟩) (λw os=>by unfold dW;kernel_rfl) (λw os=>by unfold dW;kernel_rfl) w
theorem Pz(g:Nat->Obj)(w:World)(os:OsState):dW w os 2342 (pO 794 1478 (lD w.params) g os) (fH 152 21) ⟨602,0,602,8⟩ 1029 1781 HC ⟨731,0,734,41⟩:=by unfold dW;kernel_rfl
theorem IV(g:Nat->Obj)(w:World)(os:OsState):dW w os 1483 (pO 1029 1781 (HC w.params) g os) (fH 173 27) ⟨731,0,734,41⟩ 1304 2159 lE ⟨1011,0,1030,86⟩:=by unfold dW;kernel_rfl
theorem uY{f:Nat->Obj}{n:Nat}:∀(k a b i:Nat),i+1<2^k->a*i+b<n->(ET k f n a b).get i=some (f (a*i+b))
 |0,a,b,i,h,_=>by simp at h
 |k+1,a,b,i,h,hn=>by
  have g:Nat.blt b n=true:=UQ (PJ (Qp b (a*i)) hn);have e:ET (k+1) f n a b=.node (f b) (ET k f n (2*a) (a+b)) (ET k f n (2*a) (2*a+b)):=by show(match Nat.blt b n with|true=>_|false=>_)=_;rw[g]
  rw[e,BT.get_node];have c:2^(k+1)=2*2^k:=by rw[Nat.pow_succ,Nat.mul_comm]
  by_cases C:i=0
  ·subst C;simp
  rw[PV C];by_cases p:i%2=1
  ·rw[PW p];have U:a*i+b=2*a*(i/2)+(a+b):=X.KT.arith1 p;have v:=Nat.div_add_mod i 2;rw[p] at v;rw[uY k (2*a) (a+b) (i/2) (Ue (a:=2) (PJ (PI (PR (· +1) v)) (c▸h))) (by rw[<-U];exact hn),<-U]
  rw[PV p];have U:a*i+b=2*a*(i/2-1)+(2*a+b):=X.KT.arith2 C p;have pos:0<i/2:=Sa λz=>C (by have v:=Nat.div_add_mod i 2;rw[z,(Nat.mod_two_eq_zero_or_one i).resolve_right p] at v;exact v.symm);rw[uY k (2*a) (2*a+b) (i/2-1) ((Q5 pos).symm▸Ue (a:=2) (PJ (Nat.mul_div_le i 2) (Nat.lt_of_succ_lt (c▸h)))) (by rw[<-U];exact hn),<-U]
theorem Hz{t:BT}{i:Nat}:∀(l:Frag),(∀p∈l,t.get p.1=some p.2)->yZ l (λa=>(t.get a).getD default) i=(t.get i).getD default
 |[],_=>rfl
 |p::l,h=>by
  show(match Nat.beq p.1 i with|true=>p.2|false=>yZ l _ i)=_;cases e:Nat.beq p.1 i with
  |true=>have b:p.1=i:=Nat.eq_of_beq_eq_true e;subst b;rw[h p (.head _)];rfl
  |false=>exact Hz l λq d=>h q (.tail _ d)
theorem J7{s':SharedT}{n b:Nat}{os:OsState}{l:Frag}(C:s'.n=n)(h:s'.life={})(N:s'.gens=#[])(o:s'.drawn={})(j:s'.toks=b)(q:s'.os=os)(r:∀p∈l,s'.tree.get p.1=some p.2)(k:n+1<2^12):s'.abs=(pO n b l (λa=>(s'.tree.get a).getD default) os).abs:=by
 obtain⟨t,f,s,gs,d,m,g⟩:=s'
 dsimp only at C h N o j q r
 subst C h N o j q
 have e:absHeap t f {}=absHeap (ET 12 (yZ l (λa=>(t.get a).getD default)) f 1 0) f {}:=by unfold absHeap BT.list;refine PR (λx:List Obj=>Heap.mk x.toArray {}) (QM λi hi=>?_);have hi:=Sw.mp hi;rw[uY 12 1 0 i (by omega) (by omega)];show _=yZ l _ (1*i+0);rw[show 1*i+0=i by omega,Hz l r]
 show Shared.mk (absHeap t f {}) #[] {} m g=Shared.mk (absHeap (ET 12 (yZ l (λa=>(t.get a).getD default)) f 1 0) f {}) #[] {} m g
 rw[<-e]
set_option tactic.hygienic true in
theorem fZ{w:World}{os:OsState}{N:Nat}{s:SharedT}{l:List Stmt}{pos u:Pos}{n b:Nat}{fr:Params->Frag}(h:dW w os N s l pos n b fr u)(e:n+1<2^12):
  ∃g,segRun treeTable ft w 11 (some (.ref 6)) 1 N s.abs (piecesOf l AN cM pos [topFrame rA])=some (.next,(pO n b (fr w.params) g os).abs,cM,u):=by
 obtain⟨⟨f,s',c,p⟩,C,d⟩:=QZ.mp h
 simp only[Um] at d
 obtain⟨rfl,e1,e2,e3,e4,e5,e6,rfl,rfl,e7⟩:=d
 rw[QA] at e7
 have r:∀p∈fr w.params,s'.tree.get p.1=some p.2:=λp v=>List.map_inj_left.mp e7 p v
 refine⟨λa=>(s'.tree.get a).getD default,?_⟩
 rw[<-J7 e1 e2 e3 e4 e5 e6 r e]
 rw[MP,<-Fast.te10110043849684766642,<-Fast.te14364793385576792824] at C
 exact segRun_of C
theorem ED{w:World}{s:Shared}{pos:Pos}:topRun treeTable ft w 11 (some (.ref 6)) 3 s (restOf [] AN cM pos [topFrame rA])=some s:=by obtain⟨h,g,d,t,o⟩:=s;rfl
abbrev KK:List Stmt:=fH 0 84++(fH 84 1++(fH 85 52++(fH 137 14++(fH 151 1++(fH 152 21++(fH 173 27++[]))))))
theorem Eg:behindTheImports ft=KK:=by kernel_rfl
theorem F8(w:World)(os:OsState):∃g,topRun treeTable ft w 11 (some (.ref 6)) (2403+(101+(1699+(2017+(171+(2342+(1483+3))))))) (pO 15 187 (IF w.params) (λb=>default) os).abs (restOf KK AN cM rA [topFrame rA])=some (pO 1304 2159 (lE w.params) g os).abs:=by obtain⟨gA,o⟩:=fZ (Pf (λb=>default) w os) (by decide);obtain⟨gB,v⟩:=fZ (OZ gA w os) (by decide);obtain⟨gC,Y⟩:=fZ (O6 gB w os) (by decide);obtain⟨gC,q⟩:=fZ (It gC w os) (by decide);obtain⟨gD,a⟩:=fZ (Pe gC w os) (by decide);obtain⟨gE,I⟩:=fZ (Pz gD w os) (by decide);obtain⟨gE,x⟩:=fZ (IV gE w os) (by decide);exact⟨gE,T0 o (T0 v (T0 Y (T0 q (T0 a (T0 I (T0 x ED))))))⟩
theorem Gj(w:World)(os:OsState):topGo treeTable ft w 11 (some (.ref 6)) 12 ⟨boot_heap w.params,Array.mk [],boot_drawn,boot_toks,os⟩ (topStub ft)=
  some ((pO 15 187 (IF w.params) (λa=>default) os).abs,⟨denote treeTable cM,cM,rA,[topFrame rA]⟩):=by kernel_rfl
set_option tactic.hygienic true in
theorem AL(w:World)(s:Shared):segRun treeTable ft w 11 (some (.ref 6)) 1 1 s (blockOf (behindTheImports ft) AN cM rA [topFrame rA])=some (.next,s,cM,rA):=by kernel_rfl
theorem Fv(w:World)(os:OsState):∃g,topRun treeTable ft w 11 (some (.ref 6)) (12+(1+(2403+(101+(1699+(2017+(171+(2342+(1483+3))))))))) ⟨boot_heap w.params,Array.mk [],boot_drawn,boot_toks,os⟩ (topStub ft)=some (pO 1304 2159 (lE w.params) g os).abs:=by obtain⟨g,h⟩:=F8 w os;refine⟨g,go_top (Gj w os) (piece_block (AL w _) ?_)⟩;rw[Eg];exact h
theorem FL{p q:Program}{loose:Y9}{Xt:Shared->Bool}{x:Type}{Yf:Shared->x}{Ya:World->x}{N:Nat}{g0:Bool}{Y:Params->Heap}{y:Array GenState}{z:Drawn}{u:Nat}{b:Nat}{A:X8}{M:Nat}(C:∀w:World,(fencedOpening treeTable p w N).map (λs=>(s.heap,s.gens,s.drawn,s.toks))=some (Y w.params,y,z,u))(v:∀w:World,((Y w.params).isNs mainGlobals&&y.size==0,(Y w.params).objs.size,(Y w.params).nsMap mainGlobals "__annotations__")=(true,b,A))(run:∀(w:World)(os:OsState),∃s₁,topRun treeTable p w b A M ⟨Y w.params,y,z,u,os⟩ (topStub p)=some s₁/\
   (staticsOk (importedModules p.main.body) (Y w.params) s₁.heap&&namesBound p s₁.heap&&gensDone s₁&&laidKept (Y w.params) s₁.heap)=true/\
   openSeen q loose (importedModules p.main.body) Xt g0 s₁=openGood q loose/\Yf s₁=Ya w)(le:Nat.ble M N=true):LeftO p q loose Xt Yf Ya N g0:=λw=>by
 obtain⟨⟨h,gs,d,k,os⟩,e,c⟩:=QZ.mp (C w)
 obtain⟨rfl,rfl,rfl,rfl⟩:h=Y w.params/\gs=y/\d=z/\k=u:=by simpa using c
 obtain⟨B,G,L⟩:_/\_/\_:=by simpa only[Um] using v w
 obtain⟨s₁,r,I,o,J⟩:=run w os
 have r:=topRun_mono (N-M) _ _ _ _ r
 rw[show M+(N-M)=N by have:=P6 le;omega] at r
 have t:topFrom treeTable p w N ⟨Y w.params,gs,d,k,os⟩=some s₁:=by unfold topFrom;dsimp only;rw[B,G,L,r];show(match staticsOk (importedModules p.main.body) (Y w.params) s₁.heap&&namesBound p s₁.heap&&gensDone s₁&&laidKept (Y w.params) s₁.heap with|true=>_|false=>_)=_;rw[I]
 unfold openEnds
 rw[e]
 show(topFrom treeTable p w N _).map _=_
 rw[t]
 exact PR some (US o J)
def qv:Program:=view ft [199]
theorem FH(w:World):((boot_heap w.params).isNs mainGlobals&&(Array.mk ([]:List GenState)).size==0,(boot_heap w.params).objs.size,(boot_heap w.params).nsMap mainGlobals "__annotations__")=(true,11,some (.ref 6)):=by kernel_rfl
theorem EI(w:World):(fencedOpening treeTable ft w 20000).map (λs=>(s.heap,s.gens,s.drawn,s.toks))=some (boot_heap w.params,Array.mk [],boot_drawn,boot_toks):=
 boot_open (p:=ft) (N:=20000) (by kernel_rfl) (by decide+kernel) (λs=>by kernel_rfl) w
noncomputable def qx:Y9:=(Oo.take 191).map (·.1)
theorem EO(w:World)(g:Nat->Obj)(os:OsState):namesBound ft (pO 1304 2159 (lE w.params) g os).abs.heap=true:=by
 unfold namesBound;rw[Fast.sDec_eq]
 kernel_rfl
theorem LW(w:World)(g:Nat->Obj)(os:OsState):(staticsOk (importedModules ft.main.body) (boot_heap w.params) (pO 1304 2159 (lE w.params) g os).abs.heap&&namesBound ft (pO 1304 2159 (lE w.params) g os).abs.heap&&gensDone (pO 1304 2159 (lE w.params) g os).abs&&laidKept (boot_heap w.params) (pO 1304 2159 (lE w.params) g os).abs.heap)=true:=by rw[EO];kernel_rfl
theorem Lu(w:World)(g:Nat->Obj)(os:OsState):openSeen qv qx (importedModules ft.main.body) (λa=>true) true (pO 1304 2159 (lE w.params) g os).abs=openGood qv qx:=by rw[Fast.te4187177175401517315];kernel_rfl
theorem G0:∀P:Params,NP=(lE P).map (·.1):=λP=>by kernel_rfl
theorem Fh(P:Params)(g:Nat->Obj)(os:OsState):((lE P).map λp=>(Nat.blt p.1 1304,(pO 1304 2159 (lE P) g os).tree.get p.1,alive p.2))=(lE P).map λp=>(true,some p.2,some p.2):=by kernel_rfl
theorem KP(w:World)(g:Nat->Obj)(os:OsState):NP.map (pO 1304 2159 (lE w.params) g os).abs.heap.get? =(lE w.params).map λp=>some p.2:=by
 rw[G0 w.params,QA];refine QM λp v=>?_;obtain⟨C,d,N⟩:_/\_/\_:=by simpa only[Um] using List.map_inj_left.mp (Fh w.params g os) p v
 exact(abs_get (P6 C) d).trans N
def xN:Hook:=kHook lE NP G0
theorem left:LeftO ft qv qx (λa=>true) xN.obs xN.val 20000:=
 FL EI FH (λw os=>by obtain⟨g,h⟩:=Fv w os;exact⟨_,h,LW w g os,Lu w g os,KP w g os⟩) (by decide+kernel)
theorem Dh{F:Look->Bool}{x y f a b c}(C:f a=false)(d:f b=false)(N:f c=false)(k:F {strict:=x,foot:=y}=true):F {strict:=x,foot:=y,bare:=R.filterR f [a,b,c]}=true:=by rw[<-R.filterR_eq,List.filter_cons,List.filter_cons,List.filter_cons,C,d,N];exact k
theorem Ly:PySem.Challenge.rw_rh0134_01.wellSaid=true:=by
 rw[Fast.te9446332074065402090];refine TD ?_ ?_
 repeat' with_reducible refine TD ?_ ?_
 refine TD ?_ ?_
 repeat' with_reducible refine TD ?_ ?_
 refine TD ?_ ?_
 repeat' with_reducible refine TD ?_ ?_
 refine TD ?_ ?_
 repeat' with_reducible refine TD ?_ ?_
 all_goals try with_reducible refine Dh (F:=λk=>Fast.tw8326940854005059898 k _) ?_ ?_ ?_ ?_
 all_goals decide+kernel
theorem DZ{T:Str->Option Addr}{B:ExcName->X8}{n:List WData}{s₁ s':Shared}(c:∀b o,s₁.heap.get? b=some o->s'.heap.get? b=some o)(f:s'.os=s₁.os)(U:s'.gens=#[]):
  GoodWG PySem.Challenge.rw_rh0134_01.row.toRowW.claim T B n s₁ (.ok (.ret (.bool true))) s':=
 GoodW.toG ⟨.inl ⟨.bool true,.bool true,[],rfl,λa=>rfl,.bool true,postW_of (r:=PySem.Challenge.rw_rh0134_01.row.toRowW) (X:=true) (by kernel_rfl) (w_eq_bool (k:=true) (l:=true) (w_res rfl) w_lit) rfl,λa=>⟨SR,λa h=>nomatch h⟩⟩,c,f,U⟩
def D2:DefRec:=match C9 199 with
 |.FunctionDef n a b _ _ _ sc _ _ p=>⟨n,a,b,sc,p⟩
 |_=>⟨"",default,[],default,⟨0,0,0,0⟩⟩
abbrev Mh:Prop:=∀(w:World)(s:Shared)(mg mb:Str->X8)(B:ExcName->X8)(l:Addr)(vs:X9)(ns:Z9),
 Top qv (looseW qv qx) B mg mb s.heap->(lE w.params).In s.heap->s.heap.IsList l vs.toArray->IntsAre vs ns->ns.length<=63->s.gens=#[]->
 wpAny (model ft w) callerA (PySem.call (.ref 1303) [.ref l]) (λv s'=>v=.bool true/\(∀b o,s.heap.get? b=some o->s'.heap.get? b=some o)/\s'.os=s.os/\s'.gens=#[]) (λa a=>False) s
theorem Md:PySem.Challenge.rw_rh0134_01.row.prog.tablesWhole=true:=by unfold Program.tablesWhole TablesWhole.wProgram TablesWhole.holds Scope.bears;rw[Fast.te6116379765354995101,Fast.sDec_eq];decide+kernel
theorem Nu(M:Mh):PySem.Challenge.rw_rh0134_01.Holds:=by
 refine holds_law Ly λLy=>?_;refine holds_open (q:=qv) (loose:=qx) (Xt:=λa=>true) (XP:=λa a=>True) (Yf:=xN.obs) (Ya:=xN.val) (YP:=xN.says) (N:=20000) (d:=D2) (kwd:=[]) left xN.of xN.keeps (λa a=>trivial) (λa a a a a=>trivial)
  (by kernel_rfl) (by kernel_rfl) (by kernel_rfl) (λa a=>recFacts_nil rfl) (by rfl) (by assumption) (by decide+kernel) ⟨rfl,rfl,rfl,rfl,rfl,Md⟩ ?hw ?hc
 case hw=>w_witness2
 case hc=>
  intro w x s₁ mg mb G Y g o k u doc A y j L m e p f n bV as i b t c Q
  have r:(lE w.params).In s₁.heap:=kIn_of Y
  refine Ground.open G ?_
  intro T B D s C
  have U:mg D2.name=some (.ref 1303):=mg_of r T.g (by kernel_rfl)
  rw[U] at p
  cases p
  clear L m e B D s C
  wrow_args i b t c Q
  (rename Heap.IsList _ _ _=>hL)
  (rename IntsAre _ _=>hI)
  (rename¬(_:Int)<_=>hc)
  refine Qj (M w s₁ mg mb _ _ _ _ T r hL hI (by omega) f) (λv s' h=>?_) (λa a h=>h.elim)
  obtain⟨rfl,hk,hos,hgs⟩:=h
  exact DZ hk hos hgs
end
end
section
mutual
@[elab_as_elim] theorem sB{t:Sort u}{a b:t}{p:t->Prop}(h:a=b)(m:p a):p b:=h▸m
@[elab_as_elim] theorem rR{t:Sort u}{a b:t}{p:t->Prop}(h:a=b)(m:p b):p a:=h▸m
theorem dD{p:Prop}[i:Decidable p](h:decide p=true:=by rfl):p:=P9 h
theorem lq{A B a b:Nat}(h:A<=B)(e:B+a<=A+b:=by simp+arith):a<=b:=Nat.le_of_add_le_add_left (ID e (PX h b))
theorem BE{A B:Nat}{P:Prop}(h:A<=B)(e:B+1<=A:=by simp+arith):P:=VC (ID e h) (Si B)
theorem dA{a b:Nat}(e:a<=b:=by simp+arith):a<=b:=e
theorem aO{a b c d:Nat}(h:a<=b)(h':c<=d):a+c<=b+d:=Qu h h'
theorem vY{m n:Nat}(k:Nat)(h:m<=n):k*m<=k*n:=QC k h
theorem fW{a b:Nat}(h:a=b):a<=b:=PI h
theorem mO{a b:Nat}(h:a=b):b<=a:=PI h.symm
theorem iq{a b:Nat}(h:b<=a):a-b+b<=a/\a<=a-b+b:=⟨PI (Q5 h),PI (Q5 h).symm⟩
theorem Os{x y:Nat}(h:x<=y:=by simp+arith)(p:1<=x:=by simp+arith):x-1+1<=y:=ID (PI (Q5 p)) h
theorem Oz{z x:Nat}(h:z+1<=x:=by simp+arith):z<=x-1:=Ti h
theorem zb{n k:Nat}(h:k<=n):∃e,n=e+k:=Ru h
theorem N2{u n d:Nat}(C:u<=n)(e:n<=u+d):u+(d-(u+d-n))=n:=
 have x:=iq e;have y:=iq (a:=d) (b:=u+d-n) (lq (aO x.1 C));Qz (lq (aO y.1 x.2)) (lq (aO y.2 x.1))
end
section
variable{Z:Prop}{a b c d e f g j:Type}{A B C D E F G H:Prop}
theorem dQ(h:A/\B)(k:A->B->Z):Z:=k h.1 h.2
theorem DP(h:A/\B/\C)(k:A->B->C->Z):Z:=k h.1 h.2.1 h.2.2
theorem EG(h:A/\B/\C/\D)(k:A->B->C->D->Z):Z:=k h.1 h.2.1 h.2.2.1 h.2.2.2
theorem Iw(h:A/\B/\C/\D/\E)(k:A->B->C->D->E->Z):Z:=k h.1 h.2.1 h.2.2.1 h.2.2.2.1 h.2.2.2.2
theorem N6(h:A/\B/\C/\D/\E/\F)(k:A->B->C->D->E->F->Z):Z:=k h.1 h.2.1 h.2.2.1 h.2.2.2.1 h.2.2.2.2.1 h.2.2.2.2.2
theorem Ji(h:A/\B/\C/\D/\E/\F/\G)(k:A->B->C->D->E->F->G->Z):Z:=k h.1 h.2.1 h.2.2.1 h.2.2.2.1 h.2.2.2.2.1 h.2.2.2.2.2.1 h.2.2.2.2.2.2
theorem OU(h:A/\B/\C/\D/\E/\F/\G/\H)(k:A->B->C->D->E->F->G->H->Z):Z:=k h.1 h.2.1 h.2.2.1 h.2.2.2.1 h.2.2.2.2.1 h.2.2.2.2.2.1 h.2.2.2.2.2.2.1 h.2.2.2.2.2.2.2
section
variable{A B C D E F G:a->Prop}
mutual
theorem jn(h:∃p,A p)(k:∀p,A p->Z):Z:=h.elim k
theorem am(h:∃p,A p/\B p)(k:∀p,A p->B p->Z):Z:=h.elim λa h=>dQ h (k a)
theorem aK(p)(a:A p)(b:B p):∃p,A p/\B p:=⟨p,a,b⟩
theorem nR(h:∃p,A p/\B p/\C p)(k:∀p,A p->B p->C p->Z):Z:=h.elim λa h=>DP h (k a)
theorem oW(p)(a:A p)(b:B p)(c:C p):∃p,A p/\B p/\C p:=⟨p,a,b,c⟩
theorem EY(h:∃p,A p/\B p/\C p/\D p)(k:∀p,A p->B p->C p->D p->Z):Z:=h.elim λa h=>EG h (k a)
theorem JG(p)(a:A p)(b:B p)(c:C p)(d:D p):∃p,A p/\B p/\C p/\D p:=⟨p,a,b,c,d⟩
theorem OE(h:∃p,A p/\B p/\C p/\D p/\E p)(k:∀p,A p->B p->C p->D p->E p->Z):Z:=h.elim λa h=>Iw h (k a)
theorem M6(p)(a:A p)(b:B p)(c:C p)(d:D p)(e:E p):∃p,A p/\B p/\C p/\D p/\E p:=⟨p,a,b,c,d,e⟩
theorem Ob(h:∃p,A p/\B p/\C p/\D p/\E p/\F p)(k:∀p,A p->B p->C p->D p->E p->F p->Z):Z:=h.elim λa h=>N6 h (k a)
theorem Io(p)(a:A p)(b:B p)(c:C p)(d:D p)(e:E p)(f:F p):∃p,A p/\B p/\C p/\D p/\E p/\F p:=⟨p,a,b,c,d,e,f⟩
theorem Pk(h:∃p,A p/\B p/\C p/\D p/\E p/\F p/\G p)(k:∀p,A p->B p->C p->D p->E p->F p->G p->Z):Z:=h.elim λa h=>Ji h (k a)
end
end
section
variable{A B C D E F G:a->b->Prop}
mutual
theorem i5(h:∃p q,A p q)(k:∀p q,A p q->Z):Z:=h.elim λa h=>jn h (k a)
theorem vy(p q)(a:A p q):∃p q,A p q:=⟨p,q,a⟩
theorem eA(h:∃p q,A p q/\B p q)(k:∀p q,A p q->B p q->Z):Z:=h.elim λa h=>am h (k a)
theorem rS(p q)(a:A p q)(b:B p q):∃p q,A p q/\B p q:=⟨p,q,a,b⟩
theorem dg(h:∃p q,A p q/\B p q/\C p q)(k:∀p q,A p q->B p q->C p q->Z):Z:=h.elim λa h=>nR h (k a)
theorem ng(p q)(a:A p q)(b:B p q)(c:C p q):∃p q,A p q/\B p q/\C p q:=⟨p,q,a,b,c⟩
theorem oU(h:∃p q,A p q/\B p q/\C p q/\D p q)(k:∀p q,A p q->B p q->C p q->D p q->Z):Z:=h.elim λa h=>EY h (k a)
theorem Et(p q)(a:A p q)(b:B p q)(c:C p q)(d:D p q):∃p q,A p q/\B p q/\C p q/\D p q:=⟨p,q,a,b,c,d⟩
theorem KN(h:∃p q,A p q/\B p q/\C p q/\D p q/\E p q)(k:∀p q,A p q->B p q->C p q->D p q->E p q->Z):Z:=h.elim λa h=>OE h (k a)
theorem OC(p q)(a:A p q)(b:B p q)(c:C p q)(d:D p q)(e:E p q):∃p q,A p q/\B p q/\C p q/\D p q/\E p q:=⟨p,q,a,b,c,d,e⟩
theorem Pp(h:∃p q,A p q/\B p q/\C p q/\D p q/\E p q/\F p q)(k:∀p q,A p q->B p q->C p q->D p q->E p q->F p q->Z):Z:=h.elim λa h=>Ob h (k a)
theorem OY(h:∃p q,A p q/\B p q/\C p q/\D p q/\E p q/\F p q/\G p q)(k:∀p q,A p q->B p q->C p q->D p q->E p q->F p q->G p q->Z):Z:=h.elim λa h=>Pk h (k a)
end
end
section
variable{A B C D E F G:a->b->c->Prop}
theorem k6(h:∃p q r,A p q r)(k:∀p q r,A p q r->Z):Z:=h.elim λa h=>i5 h (k a)
theorem M7(p q r)(a:A p q r):∃p q r,A p q r:=⟨p,q,r,a⟩
theorem AC(h:∃p q r,A p q r/\B p q r)(k:∀p q r,A p q r->B p q r->Z):Z:=h.elim λa h=>eA h (k a)
theorem Px(p q r)(a:A p q r)(b:B p q r):∃p q r,A p q r/\B p q r:=⟨p,q,r,a,b⟩
theorem Kg(h:∃p q r,A p q r/\B p q r/\C p q r)(k:∀p q r,A p q r->B p q r->C p q r->Z):Z:=h.elim λa h=>dg h (k a)
theorem zG(h:∃p q r,A p q r/\B p q r/\C p q r/\D p q r)(k:∀p q r,A p q r->B p q r->C p q r->D p q r->Z):Z:=h.elim λa h=>oU h (k a)
theorem Nf(p q r)(a:A p q r)(b:B p q r)(c:C p q r)(d:D p q r):∃p q r,A p q r/\B p q r/\C p q r/\D p q r:=⟨p,q,r,a,b,c,d⟩
theorem Ov(h:∃p q r,A p q r/\B p q r/\C p q r/\D p q r/\E p q r)(k:∀p q r,A p q r->B p q r->C p q r->D p q r->E p q r->Z):Z:=h.elim λa h=>KN h (k a)
theorem Pr(p q r)(a:A p q r)(b:B p q r)(c:C p q r)(d:D p q r)(e:E p q r):∃p q r,A p q r/\B p q r/\C p q r/\D p q r/\E p q r:=⟨p,q,r,a,b,c,d,e⟩
theorem Oy(h:∃p q r,A p q r/\B p q r/\C p q r/\D p q r/\E p q r/\F p q r)(k:∀p q r,A p q r->B p q r->C p q r->D p q r->E p q r->F p q r->Z):Z:=h.elim λa h=>Pp h (k a)
theorem Pv(h:∃p q r,A p q r/\B p q r/\C p q r/\D p q r/\E p q r/\F p q r/\G p q r)(k:∀p q r,A p q r->B p q r->C p q r->D p q r->E p q r->F p q r->G p q r->Z):Z:=h.elim λa h=>OY h (k a)
end
section
variable{A B C D E F G:a->b->c->d->Prop}
theorem vo(h:∃p q r s,A p q r s)(k:∀p q r s,A p q r s->Z):Z:=h.elim λa h=>k6 h (k a)
theorem OB(p q r s)(a:A p q r s):∃p q r s,A p q r s:=⟨p,q,r,s,a⟩
theorem Kx(h:∃p q r s,A p q r s/\B p q r s)(k:∀p q r s,A p q r s->B p q r s->Z):Z:=h.elim λa h=>AC h (k a)
theorem O0(p q r s)(a:A p q r s)(b:B p q r s):∃p q r s,A p q r s/\B p q r s:=⟨p,q,r,s,a,b⟩
theorem NK(h:∃p q r s,A p q r s/\B p q r s/\C p q r s)(k:∀p q r s,A p q r s->B p q r s->C p q r s->Z):Z:=h.elim λa h=>Kg h (k a)
theorem OL(p q r s)(a:A p q r s)(b:B p q r s)(c:C p q r s):∃p q r s,A p q r s/\B p q r s/\C p q r s:=⟨p,q,r,s,a,b,c⟩
theorem Pj(h:∃p q r s,A p q r s/\B p q r s/\C p q r s/\D p q r s)(k:∀p q r s,A p q r s->B p q r s->C p q r s->D p q r s->Z):Z:=h.elim λa h=>zG h (k a)
theorem ON(h:∃p q r s,A p q r s/\B p q r s/\C p q r s/\D p q r s/\E p q r s)(k:∀p q r s,A p q r s->B p q r s->C p q r s->D p q r s->E p q r s->Z):Z:=h.elim λa h=>Ov h (k a)
theorem N4(p q r s)(a:A p q r s)(b:B p q r s)(c:C p q r s)(d:D p q r s)(e:E p q r s):∃p q r s,A p q r s/\B p q r s/\C p q r s/\D p q r s/\E p q r s:=⟨p,q,r,s,a,b,c,d,e⟩
theorem OT(h:∃p q r s,A p q r s/\B p q r s/\C p q r s/\D p q r s/\E p q r s/\F p q r s/\G p q r s)(k:∀p q r s,A p q r s->B p q r s->C p q r s->D p q r s->E p q r s->F p q r s->G p q r s->Z):Z:=h.elim λa h=>Pv h (k a)
end
section
variable{A B C D E:a->b->c->d->e->Prop}
theorem OI(h:∃p q r s t,A p q r s t)(k:∀p q r s t,A p q r s t->Z):Z:=h.elim λa h=>vo h (k a)
theorem OW(h:∃p q r s t,A p q r s t/\B p q r s t)(k:∀p q r s t,A p q r s t->B p q r s t->Z):Z:=h.elim λa h=>Kx h (k a)
theorem O5(h:∃p q r s t,A p q r s t/\B p q r s t/\C p q r s t/\D p q r s t)(k:∀p q r s t,A p q r s t->B p q r s t->C p q r s t->D p q r s t->Z):Z:=h.elim λa h=>Pj h (k a)
theorem O2(h:∃p q r s t,A p q r s t/\B p q r s t/\C p q r s t/\D p q r s t/\E p q r s t)(k:∀p q r s t,A p q r s t->B p q r s t->C p q r s t->D p q r s t->E p q r s t->Z):Z:=h.elim λa h=>ON h (k a)
theorem No(p q r s t)(a:A p q r s t)(b:B p q r s t)(c:C p q r s t)(d:D p q r s t)(e:E p q r s t):∃p q r s t,A p q r s t/\B p q r s t/\C p q r s t/\D p q r s t/\E p q r s t:=⟨p,q,r,s,t,a,b,c,d,e⟩
end
section
variable{A B C D:a->b->c->d->e->f->Prop}
theorem PA(h:∃p q r s t u,A p q r s t u/\B p q r s t u)(k:∀p q r s t u,A p q r s t u->B p q r s t u->Z):Z:=h.elim λa h=>OW h (k a)
theorem Ng(h:∃p q r s t u,A p q r s t u/\B p q r s t u/\C p q r s t u/\D p q r s t u)(k:∀p q r s t u,A p q r s t u->B p q r s t u->C p q r s t u->D p q r s t u->Z):Z:=h.elim λa h=>O5 h (k a)
theorem OP(p q r s t u)(a:A p q r s t u)(b:B p q r s t u)(c:C p q r s t u)(d:D p q r s t u):∃p q r s t u,A p q r s t u/\B p q r s t u/\C p q r s t u/\D p q r s t u:=⟨p,q,r,s,t,u,a,b,c,d⟩
end
section
variable{A B C D E:a->b->c->d->e->f->g->Prop}
theorem OQ(p q r s t u v)(a:A p q r s t u v)(b:B p q r s t u v)(c:C p q r s t u v)(d:D p q r s t u v)(e:E p q r s t u v):∃p q r s t u v,A p q r s t u v/\B p q r s t u v/\C p q r s t u v/\D p q r s t u v/\E p q r s t u v:=⟨p,q,r,s,t,u,v,a,b,c,d,e⟩
end
end
theorem eg{u:Type}{p:u->Prop}{a:u}{l:List u}(h:p a)(t:∀x∈l,p x):∀x∈a::l,p x:=TL.mpr ⟨h,t⟩
theorem bP{t:Type}{p:t->Prop}:∀x∈([]:List t),p x:=λx h=>VC h PH
end
section
open PyProof.Rows
set_option genInjectivity true in
inductive V
 |none|bool (b:Bool)|int (i:Int)|str (s:Str)|tup (l:List V)|ref (a:Addr)|rng (n:Int)|fro (a:Addr)
theorem vB(h:(a&&b)=true):a=true/\b=true:=P7.mp h
namespace V
noncomputable def nN:V->Bool|.none=>true|_=>false
noncomputable def bN(a:Bool):V->Bool|.bool b=>a==b|_=>false
noncomputable def iN(a:Int):V->Bool|.int b=>decide (a=b)|_=>false
noncomputable def sN(a:Str):V->Bool|.str b=>decide (a=b)|_=>false
noncomputable def rN(a:Addr):V->Bool|.ref b=>a==b|_=>false
noncomputable def gN(a:Int):V->Bool|.rng b=>decide (a=b)|_=>false
noncomputable def fN(a:Addr):V->Bool|.fro b=>a==b|_=>false
noncomputable def tN(f:List V->Bool):V->Bool|.tup l=>f l|_=>false
noncomputable def lN(f:V->Bool)(g:List V->Bool):List V->Bool|[]=>false|a::l=>f a&&g l
mutual
noncomputable def eq:V->V->Bool
 |.none=>nN
 |.bool a=>bN a
 |.int a=>iN a
 |.str a=>sN a
 |.tup a=>tN (M1 a)
 |.ref a=>rN a
 |.rng a=>gN a
 |.fro a=>fN a
noncomputable def M1:List V->List V->Bool
 |[]=>List.isEmpty
 |a::l=>lN (eq a) (M1 l)
end
mutual
theorem Hi:∀{a b:V},eq a b=true->a=b
 |.none,b,h=>by cases b<;>first|rfl|exact VC h PC
 |.bool _,b,h=>by cases b<;>first|exact PR _ (Qd.mp h)|exact VC h PC
 |.int _,b,h=>by cases b<;>first|exact PR _ (P9 h)|exact VC h PC
 |.str _,b,h=>by cases b<;>first|exact PR _ (P9 h)|exact VC h PC
 |.ref _,b,h=>by cases b<;>first|exact PR _ (Qd.mp h)|exact VC h PC
 |.rng _,b,h=>by cases b<;>first|exact PR _ (P9 h)|exact VC h PC
 |.fro _,b,h=>by cases b<;>first|exact PR _ (Qd.mp h)|exact VC h PC
 |.tup _,b,h=>by cases b<;>first|exact PR _ (D7 h)|exact VC h PC
theorem D7:∀{a b:List V},M1 a b=true->a=b
 |[],b,h=>by induction b<;>first|rfl|exact VC h PC
 |_::_,b,h=>by induction b<;>first|exact congr (PR _ (Hi (vB h).1)) (D7 (vB h).2)|exact VC h PC
end
mutual
theorem HD:∀a:V,eq a a=true
 |.none=>rfl
 |.bool _=>Qd.mpr rfl
 |.int _=>Qg rfl
 |.str _=>Qg rfl
 |.ref _=>Qd.mpr rfl
 |.rng _=>Qg rfl
 |.fro _=>Qd.mpr rfl
 |.tup l=>CE l
theorem CE:∀a:List V,M1 a a=true
 |[]=>rfl
 |a::l=>P7.mpr ⟨HD a,CE l⟩
end
noncomputable instance:DecidableEq V:=λa b=>if h:eq a b=true then .isTrue (Hi h) else .isFalse λe=>h (e▸HD a)
end V
mutual
inductive O
 |list (l:List V)|dict (es:List (V×V))|inst (cls dx:Addr)(fs:List (Str×V))|slot (owner:Addr)
abbrev Y8:=List (Addr×O)
abbrev Z8:=List (Option V)
abbrev V7:=Str->Option Addr
abbrev W7:=Str->Option V
abbrev X7:=List (V×V)
abbrev Y7:=List (Str×V)
abbrev Z7:=List V
abbrev V6:=Option V
abbrev Hp:=Addr->Option O
noncomputable def upd(σ:Hp)(a:Addr)(o:O):Hp:=λb=>if b=a then some o else σ b
abbrev Env:=Z8
noncomputable def get:Z8->Nat->V6
 |[],_=>none
 |x::r,n=>n.casesOn x λn=>get r n
noncomputable def set:Z8->Nat->V->Z8
 |[],_,_=>[]
 |x::r,n,v=>n.casesOn (some v::r) λn=>x::set r n v
inductive pa|one(i:Nat)|two (i j:Nat)
inductive Bi|len|range|sorted|all|str|tuple
inductive E
 |nil|cons (a r:E)
 |lit (v:V)|var (i:Nat)|glob (x:Str)(v:V)
 |attr (a:E)(n:Str)|item (a i:E)|slice (a lo hi st:E)
 |bin (op:Operator)(a b:E)|neg (a:E)|not (a:E)
 |cmp (op:CmpOp)(a b:E)|cmp2 (op op':CmpOp)(a b c:E)
 |and (es:E)|or (es:E)|ite (c a b:E)
 |tup (es:E)|list (es:E)|dict (es:E)
 |call (f:Addr)(x:Str)(es:E)|meth (a:E)(n:Str)(es:E)|bi (b:Bi)(es:E)
 |comp (elt:E)(pat:pa)(iter conds:E)
 |dead
set_option genCtorIdx false in
inductive S
 |nil|seq (a r:S)
 |expr (e:E)|asg (p:pa)(e:E)|asg2 (i j:Nat)(a b:E)
 |setAttr (o:E)(n:Str)(e:E)|setItem (o i e:E)
 |augVar (i:Nat)(op:Operator)(e:E)|augAttr (o:E)(n:Str)(op:Operator)(e:E)|augItem (o i:E)(op:Operator)(e:E)
 |iff (c:E)(a b:S)|whl (c:E)(b:S)|loop (p:pa)(it:E)(b:S)
 |ret (e:E)|ret0|cont|tryF (b Za:S)|dead
inductive Gh|next|cont|ret(v:V)
structure Fn where
 np:Nat
 dfl:Z7
 nslots:Nat
 body:S
structure nc where
 fn:Addr->Option Fn
 meth:Addr->Str->Option Addr
 cls:Addr->Option (Option Addr)
 attr:Addr->Str->Bool
 fro:Addr->Option X7
 seq:Addr->Option Z7
def Dz(o:V6)(P:V->Prop):Prop:=o.casesOn False P
theorem zy{P:V->Prop}:∀{o:V6},Dz o P->∃v,o=some v/\P v
 |some v,h=>(aK v rfl h)
abbrev KV:=V->Hp->Prop
abbrev KL:=Z7->Hp->Prop
abbrev KB:=Bool->Hp->Prop
abbrev KS:=Gh->Env->Hp->Prop
abbrev KO:=V6->Hp->Prop
abbrev oX:=Env->Hp->KV->Prop
abbrev Op:=Env->Hp->KL->Prop
abbrev M4:=Env->Hp->KB->Prop
abbrev Hn:=Env->Hp->KS->Prop
abbrev cj:=Addr->Z7->Hp->KV->Prop
noncomputable def lim:Nat:=1000000
def alloc(o:O)(σ:Hp)(Q:KV):=∀a,σ a=none->Q (.ref a) (upd σ a o)
inductive Tr(σ:Hp):V->Bool->Prop
 |none:Tr σ .none false
 |bool {b:Bool}:Tr σ (.bool b) b
 |int {i:Int}:Tr σ (.int i) (decide (i≠0))
 |list {a:Addr} {l:Z7} (h:σ a=some (.list l)) (hl:l.length<=lim):Tr σ (.ref a) (!l.isEmpty)
noncomputable def Eu{t:Type}(l:List t)(i:Int):Option t:=
 if 1000000<=i\/i< -1000000 then none
 else if i<0 then(if(l.length:Int)+i<0 then none else l[((l.length:Int)+i).toNat]?) else l[i.toNat]?
noncomputable def aJ(k:V):X7->V6
 |[]=>none
 |p::r=>if p.1=k then some p.2 else aJ k r
noncomputable def gJ(k v:V):X7->X7
 |[]=>[(k,v)]
 |p::r=>if p.1=k then(p.1,v)::r else p::gJ k v r
noncomputable def aX(n:Str):Y7->V6
 |[]=>none
 |p::r=>if p.1=n then some p.2 else aX n r
noncomputable def bQ(n:Str)(v:V):Y7->Y7
 |[]=>[(n,v)]
 |p::r=>if p.1=n then(p.1,v)::r else p::bQ n v r
noncomputable def dN:Nat->V->Bool
 |0,x=>x.casesOn false (λa=>false) (λa=>true) (λs=>PyData.strOk s) (λa=>false) (λa=>false) (λa=>false) (λa=>false)
 |n+1,x=>x.casesOn false (λa=>false) (λa=>true) (λs=>PyData.strOk s) (λl=>l.all (dN n)) (λa=>false) (λa=>false) (λa=>false)
def cF(v:V):Bool:=dN 4 v
noncomputable def cp(v:V):Nat:=v.casesOn 2 (λa=>2) (λa=>0) (λa=>1) (λa=>2) (λa=>2) (λa=>2) (λa=>2)
def aI(k:V)(es:X7):Bool:=cF k&&es.all λe=>cp e.1==cp k
inductive u7(σ:Hp):V->V->V->Prop
 |tup {l:Z7} {i:Int} {u:V} (h:Eu l i=some u):u7 σ (.tup l) (.int i) u
 |list {a:Addr} {l:Z7} {i:Int} {u:V} (e:σ a=some (.list l)) (h:Eu l i=some u):u7 σ (.ref a) (.int i) u
 |dict {a:Addr} {es:X7} {k u:V} (e:σ a=some (.dict es)) (f:aI k es=true) (h:aJ k es=some u):u7 σ (.ref a) k u
 |char {s:Str} {i:Int} {c:Nat} (h0:0<=i) (h1:i<1000000) (h:s.cps[i.toNat]?=some c):u7 σ (.str s) (.int i) (.str ⟨#[c]⟩)
inductive cC(σ:Hp):V->Z7->Prop
 |tup {l:Z7}:cC σ (.tup l) l
 |list {a:Addr} {l:Z7} (e:σ a=some (.list l)):cC σ (.ref a) l
 |rng {n:Nat} (h:n<=lim):cC σ (.rng n) ((List.range n).map λ(i:Nat)=>V.int (i:Int))
noncomputable def isInt:V->Bool|.int _=>true|_=>false
noncomputable def isStr:V->Bool|.str _=>true|_=>false
noncomputable def cT(p:Int×Int):V:=.tup [.int p.1,.int p.2]
inductive wy(σ:Hp)(Q:KV):Operator->V->V->Prop
 |add {a b:Int} (q:Q (.int (a+b)) σ):wy σ Q .Add (.int a) (.int b)
 |sub {a b:Int} (q:Q (.int (a-b)) σ):wy σ Q .Sub (.int a) (.int b)
 |mul {a b:Int} (h:a.natAbs<2^64) (q:Q (.int (a*b)) σ):wy σ Q .Mult (.int a) (.int b)
 |mod {a b:Int} (h:b≠0) (q:Q (.int (a.fmod b)) σ):wy σ Q .Mod (.int a) (.int b)
 |div {a b:Int} (h:b≠0) (h':b.natAbs<1000000) (q:Q (.int (a.fdiv b)) σ):wy σ Q .FloorDiv (.int a) (.int b)
 |or {a b:Int} (q:Q (.int (Builtin.bitOr a b)) σ):wy σ Q .BitOr (.int a) (.int b)
 |and {a b:Int} (q:Q (.int (Builtin.bitAnd a b)) σ):wy σ Q .BitAnd (.int a) (.int b)
 |shl {a b:Int} (h:0<=b) (h':b<=1000000) (h2:a.natAbs<2^64) (q:Q (.int (a*2^b.toNat)) σ):wy σ Q .LShift (.int a) (.int b)
 |adds {a b:Str} (h:a.length+b.length<=1000000) (q:Q (.str (a++b)) σ):wy σ Q .Add (.str a) (.str b)
 |addl {a b:Addr} {l r:Z7} (e:σ a=some (.list l)) (e':σ b=some (.list r)) (h:l.length+r.length<=lim) (q:alloc (.list (l++r)) σ Q):wy σ Q .Add (.ref a) (.ref b)
end
mutual
noncomputable def aZ:V->PyData
 |.none=>.none
 |.bool b=>.bool b
 |.int i=>.int i
 |.str s=>.str s
 |.tup l=>.tuple (aN l)
 |.ref _=>.none
 |.rng _=>.none
 |.fro _=>.none
noncomputable def aN:Z7->List PyData
 |[]=>[]
 |a::l=>aZ a::aN l
end
mutual
inductive xA(σ:Hp):V->PyData->Prop
 |none:xA σ .none .none
 |bool {b:Bool}:xA σ (.bool b) (.bool b)
 |int {i:Int}:xA σ (.int i) (.int i)
 |str {s:Str}:xA σ (.str s) (.str s)
 |tup {l:Z7} {d:List PyData} (h:sv σ l d):xA σ (.tup l) (.tuple d)
 |list {a:Addr} {l:Z7} (e:σ a=some (.list l)) (h:l.all cF=true):xA σ (.ref a) (.list (aN l))
inductive sv(σ:Hp):Z7->List PyData->Prop
 |nil:sv σ [] []
 |cons {a:V} {d:PyData} {l:Z7} {r:List PyData} (h:xA σ a d) (t:sv σ l r):sv σ (a::l) (d::r)
end
inductive In(σ:Hp):V->V->Bool->Prop
 |tup {i:Int} {l:Z7} (h:l.all isInt=true):In σ (.int i) (.tup l) (decide (V.int i∈l))
 |list {i:Int} {a:Addr} {l:Z7} (e:σ a=some (.list l)) (h:l.all isInt=true):In σ (.int i) (.ref a) (decide (V.int i∈l))
 |dict {x:V} {a:Addr} {es:X7} (e:σ a=some (.dict es)) (h:aI x es=true):In σ x (.ref a) (aJ x es).isSome
inductive qa(σ:Hp):CmpOp->V->V->Bool->Prop
 |lt {a b:Int}:qa σ .Lt (.int a) (.int b) (decide (a<b))
 |le {a b:Int}:qa σ .LtE (.int a) (.int b) (decide (a<=b))
 |gt {a b:Int}:qa σ .Gt (.int a) (.int b) (decide (b<a))
 |ge {a b:Int}:qa σ .GtE (.int a) (.int b) (decide (b<=a))
 |is {v:V}:qa σ .Is v .none (decide (v=.none))
 |isNot {v:V}:qa σ .IsNot v .none (decide (v≠.none))
 |inn {x y:V} {b:Bool} (h:In σ x y b):qa σ .In x y b
 |notIn {x y:V} {b:Bool} (h:In σ x y b):qa σ .NotIn x y (!b)
 |eq {x y:V} {c d:PyData} (hx:xA σ x c) (hy:xA σ y d) (s:(SeqAt.shaped c&&SeqAt.shaped d)=true):qa σ .Eq x y (PyData.eqv c d)
 |ne {x y:V} {c d:PyData} (hx:xA σ x c) (hy:xA σ y d) (s:(SeqAt.shaped c&&SeqAt.shaped d)=true):qa σ .NotEq x y (!PyData.eqv c d)
noncomputable def xV(i:Int):Str:=Str.ofString (toString i)
noncomputable def gW(v:Str)(l:Y9):Str:=Txt.join v l
noncomputable def kP(p:Int×Int):Int:=p.1*1000000+p.2
inductive zq(σ:Hp)(Q:KV):Bi->Z7->Prop
 |lenT {l:Z7} (h:l.length<=lim) (q:Q (.int l.length) σ):zq σ Q .len [.tup l]
 |lenL {a:Addr} {l:Z7} (e:σ a=some (.list l)) (h:l.length<=lim) (q:Q (.int l.length) σ):zq σ Q .len [.ref a]
 |lenD {a:Addr} {es:X7} (e:σ a=some (.dict es)) (h:es.length<=lim) (k:es.all (λp=>isInt p.1)=true) (q:Q (.int es.length) σ):zq σ Q .len [.ref a]
 |range {n:Nat} (h:n<=lim) (q:Q (.rng n) σ):zq σ Q .range [.int n]
 |sortI {a:Addr} {es:X7} {l:Z9} (e:σ a=some (.dict es)) (h:es.length<64) (k:es.map (·.1)=l.map V.int)
   (q:∀l':Z9,l'.Perm l->l'.Pairwise (· <= ·)->alloc (.list (l'.map V.int)) σ Q):zq σ Q .sorted [.ref a]
 |sortS {a:Addr} {es:X7} {l:Y9} (e:σ a=some (.dict es)) (h:es.length<64) (k:es.map (·.1)=l.map V.str)
   (q:∀l':Y9,l'.Perm l->sortedS l'=true->alloc (.list (l'.map V.str)) σ Q):zq σ Q .sorted [.ref a]
 |sortP {a:Addr} {l:List (Int×Int)} (e:σ a=some (.list (l.map cT))) (h:l.length<64) (b:∀p∈l,0<=p.2/\p.2<1000000)
   (q:∀l':List (Int×Int),l'.Perm l->l'.Pairwise (λa b=>kP a<=kP b)->alloc (.list (l'.map cT)) σ Q):zq σ Q .sorted [.ref a]
 |all {a:Addr} {bs:List Bool} (e:σ a=some (.list (bs.map V.bool))) (q:Q (.bool (bs.all id)) σ):zq σ Q .all [.ref a]
 |str {i:Nat} (h:i<=100000) (q:Q (.str (xV i)) σ):zq σ Q .str [.int i]
 |tuple {a:Addr} {l:Z7} (e:σ a=some (.list l)) (h:l.length<=lim) (q:Q (.tup l) σ):zq σ Q .tuple [.ref a]
def BQ(v:Str)(σ:Hp)(Q:KV)(vs:Z7):=∀P:Z7->Prop,(∀a(l:Y9),σ a=some (.list (l.map V.str))->(l.map (·.length)).sum+l.length*v.length<=16777216->Q (.str (gW v l)) σ->P [.ref a])->P vs
def Eo(es:X7)(σ:Hp)(Q:KV)(vs:Z7):=∀P:Z7->Prop,(∀k d,aI k es=true->Q ((aJ k es).getD d) σ->P [k,d])->P vs
def DX(a:Addr)(σ:Hp)(Q:KV)(vs:Z7):=∀P:Z7->Prop,(∀k d es,σ a=some (.dict es)->aI k es=true->Q ((aJ k es).getD d) σ->P [k,d])->(∀k es,σ a=some (.dict es)->aI k es=true->Q ((aJ k es).getD .none) σ->P [k])->P vs
def J8(a:Addr)(σ:Hp)(Q:KV)(vs:Z7):=∀P:Z7->Prop,(∀l v,σ a=some (.list l)->l.length<=lim->Q .none (upd σ a (.list (l++[v])))->P [v])->P vs
def EB(a:Addr)(σ:Hp)(Q:KV)(vs:Z7):=∀P:Z7->Prop,(∀b l r,σ a=some (.list l)->b≠a->σ b=some (.list r)->l.length+r.length<=lim->Q .none (upd σ a (.list (l++r)))->P [.ref b])->P vs
section
variable{σ:Hp}{Q:KV}{a b:Addr}{l r:Z7}{k d v:V}{es:X7}
theorem BQ.join{l:Y9}(e:σ a=some (.list (l.map V.str)))(h:(l.map (·.length)).sum+l.length*sep.length<=16777216)(q:Q (.str (gW sep l)) σ):BQ sep σ Q [.ref a]:=λP k=>k a l e h q
theorem Eo.getF(h:aI k es=true)(q:Q ((aJ k es).getD d) σ):Eo es σ Q [k,d]:=λP z=>z k d h q
theorem DX.getD(e:σ a=some (.dict es))(h:aI k es=true)(q:Q ((aJ k es).getD d) σ):DX a σ Q [k,d]:=λP z y=>z k d es e h q
theorem DX.getN(e:σ a=some (.dict es))(h:aI k es=true)(q:Q ((aJ k es).getD .none) σ):DX a σ Q [k]:=λP z y=>y k es e h q
theorem J8.append(e:σ a=some (.list l))(h:l.length<=lim)(q:Q .none (upd σ a (.list (l++[v])))):J8 a σ Q [v]:=λP z=>z l v e h q
theorem EB.extend(e:σ a=some (.list l))(n:b≠a)(c:σ b=some (.list r))(h:l.length+r.length<=lim)(q:Q .none (upd σ a (.list (l++r)))):EB a σ Q [.ref b]:=λP z=>z b l r e n c h q
end
inductive xr(T:nc)(σ:Hp):V->Str->(Hp->KV->Z7->Prop)->Prop
 |join {s:Str}:xr T σ (.str s) "join" (BQ s)
 |getF {a:Addr} {es:X7} (e:T.fro a=some es):xr T σ (.fro a) "get" (Eo es)
 |getD {a:Addr} {es:X7} (e:σ a=some (.dict es)):xr T σ (.ref a) "get" (DX a)
 |append {a:Addr} {l:Z7} (e:σ a=some (.list l)):xr T σ (.ref a) "append" (J8 a)
 |extend {a:Addr} {l:Z7} (e:σ a=some (.list l)):xr T σ (.ref a) "extend" (EB a)
def Aw(c:Addr)(σ:Hp)(Q:KV):Prop:=
 ∀a dx,a≠dx->σ a=none->σ dx=none->Q (.ref a) (upd (upd σ dx (.slot a)) a (.inst c dx []))
noncomputable def yt(v:V):Option (Option Int):=v.casesOn (some none) (λa=>none) (λi=>some (some i)) (λa=>none) (λa=>none) (λa=>none) (λa=>none) (λa=>none)
inductive Gp{α:Type}(l:List α):V->V->V->List α->Prop
 |cut {x y:V} {lo hi:Option Int} (hx:yt x=some lo) (hy:yt y=some hi):Gp l x y .none ((l.drop (lo.elim 0 (clipAt l.length))).take (hi.elim l.length (clipAt l.length)-lo.elim 0 (clipAt l.length)))
 |rev:Gp l .none .none (.int (-1)) l.reverse
inductive zf(T:nc)(σ:Hp):V->Z7->Prop
 |fro {a:Addr} {l:Z7} (e:T.seq a=some l):zf T σ (.fro a) l
 |list {a:Addr} {l:Z7} (e:σ a=some (.list l)):zf T σ (.ref a) l
section
variable(T:nc)
mutual
@[irreducible] def qh(A B:Prop)(σ:Hp)(x:V):Prop:=∃t,Tr σ x t/\(t=true->A)/\(t=false->B)
@[irreducible] def kE(n:Str)(Q:KV)(v:V)(σ:Hp):Prop:=∃x c dx w u,v=.ref x/\σ x=some (.inst c dx w)/\T.attr c n=true/\aX n w=some u/\Q u σ
@[irreducible] def dS(v:V)(Q:KV)(k:V)(σ:Hp):Prop:=∃u,u7 σ v k u/\Q u σ
def Lz(i:oX)(ρ:Env)(Q:KV)(v:V)(σ:Hp):Prop:=i ρ σ (dS v Q)
@[irreducible] def nX(v l h:V)(Q:KV)(k:V)(σ:Hp):Prop:=∃xs ys,zf T σ v xs/\Gp xs l h k ys/\xs.length<=lim/\alloc (.list ys) σ Q
def Oe(v l:V)(st:oX)(ρ:Env)(Q:KV)(h:V)(σ:Hp):Prop:=st ρ σ (nX T v l h Q)
def Oi(v:V)(hi st:oX)(ρ:Env)(Q:KV)(l:V)(σ:Hp):Prop:=hi ρ σ (Oe T v l st ρ Q)
def Pg(lo hi st:oX)(ρ:Env)(Q:KV)(v:V)(σ:Hp):Prop:=lo ρ σ (Oi T v hi st ρ Q)
@[irreducible] def tL(op:Operator)(x:V)(Q:KV)(y:V)(σ:Hp):Prop:=wy σ Q op x y
def Mk(op:Operator)(b:oX)(ρ:Env)(Q:KV)(x:V)(σ:Hp):Prop:=b ρ σ (tL op x Q)
@[irreducible] def C5(Q:KV)(x:V)(σ:Hp):Prop:=∃i,x=.int i/\Q (.int (-i)) σ
@[irreducible] def y8(Q:KV)(x:V)(σ:Hp):Prop:=∃t,Tr σ x t/\Q (.bool (!t)) σ
@[irreducible] def eE(op:CmpOp)(x:V)(Q:KV)(y:V)(σ:Hp):Prop:=∃t,qa σ op x y t/\Q (.bool t) σ
def Nz(op:CmpOp)(b:oX)(ρ:Env)(Q:KV)(x:V)(σ:Hp):Prop:=b ρ σ (eE op x Q)
@[irreducible] def BM(op C:CmpOp)(x:V)(c:oX)(ρ:Env)(Q:KV)(y:V)(σ:Hp):Prop:=∃t,qa σ op x y t/\(t=true->c ρ σ (eE C y Q))/\(t=false->Q (.bool false) σ)
def Pn(op C:CmpOp)(b c:oX)(ρ:Env)(Q:KV)(x:V)(σ:Hp):Prop:=b ρ σ (BM op C x c ρ Q)
def NH(a b:oX)(ρ:Env)(Q:KV)(x:V)(σ:Hp):Prop:=qh (a ρ σ Q) (b ρ σ Q) σ x
def NC(Q:KV)(vs:Z7)(σ:Hp):Prop:=Q (.tup vs) σ
def BH(Q:KV)(vs:Z7)(σ:Hp):Prop:=alloc (.list vs) σ Q
def pairsOf(vs:Z7)(ps:X7):Prop:=vs=ps.flatMap λp=>[p.1,p.2]
@[irreducible] def d8(Q:KV)(vs:Z7)(σ:Hp):Prop:=∃ps,pairsOf vs ps/\(ps.all (λp=>isStr p.1)||ps.all (λp=>isInt p.1))=true/\ps.all (λp=>cF p.1)=true/\ps.length<=15/\(ps.map (·.1)).Nodup/\alloc (.dict ps) σ Q
def KU(C:cj)(f:Addr)(Q:KV)(vs:Z7)(σ:Hp):Prop:=C f vs σ Q
def B9(C:cj)(f:Addr)(x:V)(Q:KV)(vs:Z7)(σ:Hp):Prop:=C f (x::vs) σ Q
@[irreducible] def n7(B:Hp->KV->Z7->Prop)(Q:KV)(vs:Z7)(σ:Hp):Prop:=B σ Q vs
@[irreducible] def rF(C:cj)(n:Str)(es:Op)(ρ:Env)(Q:KV)(x:V)(σ:Hp):Prop:=
 (∃b c dx u f,x=.ref b/\σ b=some (.inst c dx u)/\T.meth c n=some f/\aX n u=none/\es ρ σ (B9 C f x Q))\/∃B,xr T σ x n B/\es ρ σ (n7 B Q)
@[irreducible] def FI(b:Bi)(Q:KV)(vs:Z7)(σ:Hp):Prop:=zq σ Q b vs
def Mj(K:KO)(u:V)(σ:Hp):Prop:=K (some u) σ
def Cm(J:oX)(ρ:Env)(K:KO)(b:Bool)(σ:Hp):Prop:=b.casesOn (K none σ) (J ρ σ (Mj K))
def nK(p:pa)(x:V)(ρ:Env)(R:Env->Prop):Prop:=p.casesOn (λi=>R (set ρ i x)) (λi j=>∃a b,x=.tup [a,b]/\R (set (set ρ i a) j b))
def wU(J:oX)(p:pa)(cs:M4)(ρ:Env)(x:V)(σ:Hp)(K:KO):Prop:=nK p x ρ λc=>cs c σ (Cm J c K)
def MF(R:Z7->Hp->Prop)(acc:Z7)(r:V6)(σ:Hp):Prop:=r.casesOn (R acc σ) λv=>R (acc++[v]) σ
noncomputable def xv(step:V->Hp->KO->Prop)(y:Hp->Prop)(Q:KL):Z7->Z7->Hp->Prop
 |[],acc,σ=>y σ/\Q acc σ
 |x::l,acc,σ=>y σ/\step x σ (MF (xv step y Q l) acc)
@[irreducible] def iA(J:oX)(p:pa)(cs:M4)(ρ:Env)(Q:KV)(v:V)(σ:Hp):Prop:=∃l,cC σ v l/\l.length<=lim/\xv (wU J p cs ρ) (λσ=>cC σ v l) (BH Q) l [] σ
def Nv(Q:KL)(v:V)(vs:Z7)(σ:Hp):Prop:=Q (v::vs) σ
def LX(r:Op)(ρ:Env)(Q:KL)(v:V)(σ:Hp):Prop:=r ρ σ (Nv Q v)
def jG(j:Bool)(r:oX)(ρ:Env)(Q:KV)(v:V)(σ:Hp):Prop:=j.casesOn (qh (r ρ σ Q) (Q v σ) σ v) (qh (Q v σ) (r ρ σ Q) σ v)
def LI(r:M4)(ρ:Env)(Q:KB)(v:V)(σ:Hp):Prop:=qh (r ρ σ Q) (Q false σ) σ v
noncomputable def Ed:E->Bool|.nil=>true|_=>false
end
variable(C:cj)
mutual
noncomputable def cP:E->Env->Hp->KV->Prop
 |.lit v,_,σ,Q=>Q v σ
 |.var i,ρ,σ,Q=>Dz (get ρ i) λv=>Q v σ
 |.glob _ v,_,σ,Q=>Q v σ
 |.attr a n,ρ,σ,Q=>cP a ρ σ (kE T n Q)
 |.item a i,ρ,σ,Q=>cP a ρ σ (Lz (cP i) ρ Q)
 |.slice a lo hi st,ρ,σ,Q=>cP a ρ σ (Pg T (cP lo) (cP hi) (cP st) ρ Q)
 |.bin op a b,ρ,σ,Q=>cP a ρ σ (Mk op (cP b) ρ Q)
 |.neg a,ρ,σ,Q=>cP a ρ σ (C5 Q)
 |.not a,ρ,σ,Q=>cP a ρ σ (y8 Q)
 |.cmp op a b,ρ,σ,Q=>cP a ρ σ (Nz op (cP b) ρ Q)
 |.cmp2 op G a b c,ρ,σ,Q=>cP a ρ σ (Pn op G (cP b) (cP c) ρ Q)
 |.and es,ρ,σ,Q=>Bk es false ρ σ Q
 |.or es,ρ,σ,Q=>Bk es true ρ σ Q
 |.ite c a b,ρ,σ,Q=>cP c ρ σ (NH (cP a) (cP b) ρ Q)
 |.tup es,ρ,σ,Q=>Bu es ρ σ (NC Q)
 |.list es,ρ,σ,Q=>Bu es ρ σ (BH Q)
 |.dict es,ρ,σ,Q=>Bu es ρ σ (d8 Q)
 |.call f _ es,ρ,σ,Q=>Bu es ρ σ (KU C f Q)
 |.meth a n es,ρ,σ,Q=>cP a ρ σ (rF T C n (Bu es) ρ Q)
 |.bi b es,ρ,σ,Q=>Bu es ρ σ (FI b Q)
 |.comp J p L u,ρ,σ,Q=>cP L ρ σ (iA (cP J) p (Bv u) ρ Q)
 |.nil,_,_,_=>False
 |.cons _ _,_,_,_=>False
 |.dead,_,_,_=>False
noncomputable def Bu:E->Env->Hp->KL->Prop
 |.nil,_,σ,Q=>Q [] σ
 |.cons a r,ρ,σ,Q=>cP a ρ σ (LX (Bu r) ρ Q)
 |_,_,_,_=>False
noncomputable def Bk:E->Bool->Env->Hp->KV->Prop
 |.cons a r,stop,ρ,σ,Q=>(Ed r).casesOn (cP a ρ σ (jG stop (Bk r stop) ρ Q)) (cP a ρ σ Q)
 |_,_,_,_,_=>False
noncomputable def Bv:E->Env->Hp->KB->Prop
 |.nil,_,σ,Q=>Q true σ
 |.cons a r,ρ,σ,Q=>cP a ρ σ (LI (Bv r) ρ Q)
 |_,_,_,_=>False
end
end
noncomputable def D9:V->Bool
 |.none=>false
 |.bool _=>false
 |.int _=>false
 |.str _=>false
 |.tup _=>true
 |.ref _=>true
 |.rng _=>true
 |.fro _=>true
section
variable(T:nc)
mutual
@[irreducible] def bU(x:V)(n:Str)(v:V)(ρ:Env)(Q:KS)(σ:Hp):Prop:=∃a c dx u,x=.ref a/\σ a=some (.inst c dx u)/\T.attr c n=true/\(bQ n v u).length<=1000/\Q .next ρ (upd σ a (.inst c dx (bQ n v u)))
inductive uy(σ:Hp)(R:Hp->Prop):V->V->V->Prop
 |dict {a:Addr} {es:X7} {k v:V} (e:σ a=some (.dict es)) (f:aI k es=true) (h:es.length<=lim) (q:R (upd σ a (.dict (gJ k v es)))):uy σ R (.ref a) k v
 |list {a:Addr} {l:Z7} {i:Nat} {v:V} (e:σ a=some (.list l)) (h:i<l.length) (h':i<2^63) (q:R (upd σ a (.list (l.set i v)))):uy σ R (.ref a) (.int i) v
@[irreducible] def cL(x k v:V)(ρ:Env)(Q:KS)(σ:Hp):Prop:=uy σ (λσ=>Q .next ρ σ) x k v
def vE(r:Hn)(Q:KS)(c:Gh)(ρ:Env)(σ:Hp):Prop:=c.casesOn (r ρ σ Q) (Q .cont ρ σ) (λv=>Q (.ret v) ρ σ)
@[irreducible] def wV(ρ:Env)(Q:KS)(v:V)(σ:Hp):Prop:=D9 v=false/\Q .next ρ σ
def Jf(p:pa)(ρ:Env)(Q:KS)(v:V)(σ:Hp):Prop:=nK p v ρ λc=>Q .next c σ
def Je(i j:Nat)(x:V)(ρ:Env)(Q:KS)(y:V)(σ:Hp):Prop:=Q .next (set (set ρ i x) j y) σ
def MK(i j:Nat)(b:oX)(ρ:Env)(Q:KS)(x:V)(σ:Hp):Prop:=b ρ σ (Je i j x ρ Q)
def Ib(n:Str)(v:V)(ρ:Env)(Q:KS)(x:V)(σ:Hp):Prop:=bU T x n v ρ Q σ
def Lo(o:oX)(n:Str)(ρ:Env)(Q:KS)(v:V)(σ:Hp):Prop:=o ρ σ (Ib T n v ρ Q)
def IN(v x:V)(ρ:Env)(Q:KS)(k:V)(σ:Hp):Prop:=cL x k v ρ Q σ
def IZ(i:oX)(v:V)(ρ:Env)(Q:KS)(x:V)(σ:Hp):Prop:=i ρ σ (IN v x ρ Q)
def Lf(o i:oX)(ρ:Env)(Q:KS)(v:V)(σ:Hp):Prop:=o ρ σ (IZ i v ρ Q)
inductive K5(σ:Hp)(Q:KV)(op:Operator):V->V->Prop
 |mk {a b:Int} (q:wy σ Q op (.int a) (.int b)):K5 σ Q op (.int a) (.int b)
def HE(i:Nat)(ρ:Env)(Q:KS)(v:V)(σ:Hp):Prop:=Q .next (set ρ i v) σ
@[irreducible] def zh(i:Nat)(op:Operator)(x:V)(ρ:Env)(Q:KS)(y:V)(σ:Hp):Prop:=K5 σ (HE i ρ Q) op x y
def Ho(x:V)(n:Str)(ρ:Env)(Q:KS)(v:V)(σ:Hp):Prop:=bU T x n v ρ Q σ
@[irreducible] def pE(x:V)(n:Str)(op:Operator)(u:V)(ρ:Env)(Q:KS)(y:V)(σ:Hp):Prop:=K5 σ (Ho T x n ρ Q) op u y
@[irreducible] def Av(n:Str)(op:Operator)(e:oX)(ρ:Env)(Q:KS)(x:V)(σ:Hp):Prop:=∃a c dx v u,x=.ref a/\σ a=some (.inst c dx v)/\T.attr c n=true/\aX n v=some u/\e ρ σ (pE T x n op u ρ Q)
def Hf(x k:V)(ρ:Env)(Q:KS)(v:V)(σ:Hp):Prop:=cL x k v ρ Q σ
@[irreducible] def y9(x k:V)(op:Operator)(u:V)(ρ:Env)(Q:KS)(y:V)(σ:Hp):Prop:=K5 σ (Hf x k ρ Q) op u y
@[irreducible] def tX(x:V)(op:Operator)(e:oX)(ρ:Env)(Q:KS)(k:V)(σ:Hp):Prop:=∃u,u7 σ x k u/\e ρ σ (y9 x k op u ρ Q)
def Mt(i:oX)(op:Operator)(e:oX)(ρ:Env)(Q:KS)(x:V)(σ:Hp):Prop:=i ρ σ (tX x op e ρ Q)
def KY(a b:Hn)(ρ:Env)(Q:KS)(x:V)(σ:Hp):Prop:=qh (a ρ σ Q) (b ρ σ Q) σ x
def Nq(K:KB)(x:V)(σ:Hp):Prop:=qh (K true σ) (K false σ) σ x
def tW(R:Env->Hp->Prop)(Q:KS)(c:Gh)(ρ:Env)(σ:Hp):Prop:=c.casesOn (R ρ σ) (R ρ σ) (λv=>Q (.ret v) ρ σ)
def HS(body:Hn)(R:Env->Hp->Prop)(Q:KS)(ρ:Env)(b:Bool)(σ:Hp):Prop:=b.casesOn (Q .next ρ σ) (body ρ σ (tW R Q))
noncomputable def jV(c:oX)(body:Hn)(Q:KS):Nat->Env->Hp->Prop
 |0,_,_=>False
 |n+1,ρ,σ=>c ρ σ (Nq (HS body (jV c body Q n) Q ρ))
noncomputable def zK(p:pa)(b:Hn)(y:Hp->Prop)(Q:KS):Z7->Env->Hp->Prop
 |[],ρ,σ=>y σ/\Q .next ρ σ
 |x::l,ρ,σ=>y σ/\nK p x ρ λc=>b c σ (tW (zK p b y Q l) Q)
@[irreducible] def ii(p:pa)(b:Hn)(ρ:Env)(Q:KS)(v:V)(σ:Hp):Prop:=∃l,cC σ v l/\zK p b (λσ=>cC σ v l) Q l ρ σ
def Iz(ρ:Env)(Q:KS)(v:V)(σ:Hp):Prop:=Q (.ret v) ρ σ
def LK(c:Gh)(Q:KS)(i:Gh)(ρ:Env)(σ:Hp):Prop:=i.casesOn (Q c ρ σ) False (λa=>False)
def LL(f:Hn)(Q:KS)(c:Gh)(ρ:Env)(σ:Hp):Prop:=f ρ σ (LK c Q)
end
variable(C:cj)
noncomputable def fS:S->Env->Hp->KS->Prop
 |.nil,ρ,σ,Q=>Q .next ρ σ
 |.seq a r,ρ,σ,Q=>fS a ρ σ (vE (fS r) Q)
 |.expr e,ρ,σ,Q=>cP T C e ρ σ (wV ρ Q)
 |.asg p e,ρ,σ,Q=>cP T C e ρ σ (Jf p ρ Q)
 |.asg2 i j a b,ρ,σ,Q=>cP T C a ρ σ (MK i j (cP T C b) ρ Q)
 |.setAttr o n e,ρ,σ,Q=>cP T C e ρ σ (Lo T (cP T C o) n ρ Q)
 |.setItem o i e,ρ,σ,Q=>cP T C e ρ σ (Lf (cP T C o) (cP T C i) ρ Q)
 |.augVar i op e,ρ,σ,Q=>Dz (get ρ i) λx=>cP T C e ρ σ (zh i op x ρ Q)
 |.augAttr o n op e,ρ,σ,Q=>cP T C o ρ σ (Av T n op (cP T C e) ρ Q)
 |.augItem o i op e,ρ,σ,Q=>cP T C o ρ σ (Mt (cP T C i) op (cP T C e) ρ Q)
 |.iff c a b,ρ,σ,Q=>cP T C c ρ σ (KY (fS a) (fS b) ρ Q)
 |.whl c b,ρ,σ,Q=>∃n,jV (cP T C c) (fS b) Q n ρ σ
 |.loop p it b,ρ,σ,Q=>cP T C it ρ σ (ii p (fS b) ρ Q)
 |.ret e,ρ,σ,Q=>cP T C e ρ σ (Iz ρ Q)
 |.ret0,ρ,σ,Q=>Q (.ret .none) ρ σ
 |.cont,ρ,σ,Q=>Q .cont ρ σ
 |.tryF b f,ρ,σ,Q=>fS b ρ σ (LL (fS f) Q)
 |.dead,_,_,_=>False
end
def fJ(Q:KV)(c:Gh)(_ρ:Env)(σ:Hp):Prop:=c.casesOn (Q .none σ) (Q .none σ) (λv=>Q v σ)
noncomputable def HG:Z7->Nat->Z8
 |[],n=>List.replicate n none
 |v::l,n=>some v::HG l (n-1)
def zU(x:V)(Q:KV)(v:V)(σ:Hp):Prop:=v=.none/\Q x σ
def Pm(C:cj)(g:Addr)(Q:KV)(x:V)(σ:Hp):Prop:=C g [x] σ (zU x Q)
def Ml(C:cj)(g:Addr)(vs:Z7)(Q:KV)(x:V)(σ:Hp):Prop:=C g (x::vs) σ (zU x Q)
inductive My(T:nc)(C:cj)(f:Addr)(vs:Z7)(σ:Hp)(Q:KV):Prop
 |fn {F:Fn} (h:T.fn f=some F) (l1:vs.length<=F.np) (l2:F.np<=vs.length+F.dfl.length) (q:fS T C F.body (HG (vs++F.dfl.drop (vs.length+F.dfl.length-F.np)) F.nslots) σ (fJ Q))
 |cls (h:T.cls f=some none) (e:vs=[]) (q:Aw f σ Q)
 |ini {g:Addr} (h:T.cls f=some (some g)) (q:Aw f σ (Ml C g vs Q))
noncomputable def ad(T:nc):Nat->cj
 |0,_,_,_,_=>False
 |d+1,f,vs,σ,Q=>My T (ad T d) f vs σ Q
inductive an{α β:Type}(R:α->β->Prop):List α->List β->Prop
 |nil:an R [] []
 |cons {a b l r}:R a b->an R l r->an R (a::l) (b::r)
namespace an
variable{T Y:Type}{R U:T->Y->Prop}
mutual
theorem length(h:an R l r):l.length=r.length:=by
 induction h with
 |nil=>rfl
 |cons _ _ ih=>simp [ih]
theorem uncons{P:List Y->Prop}(h:an R (a::l) us)(k:∀u r,R a u->an R l r->P (u::r)):P us:=by cases h with|cons x t=>exact k _ _ x t
theorem nl(h:an R l []):l=[]:=RW.mp h.length
theorem nr(h:an R [] r):r=[]:=RW.mp h.length.symm
theorem cc{b:Y}{l:List T}{r:List Y}(h:an R (a::l) (b::r)):R a b/\an R l r:=by cases h with|cons x t=>exact⟨x,t⟩
theorem one{P:List Y->Prop}(h:an R [a] us)(k:∀u,R a u->P [u]):P us:=h.uncons λu r x t=>by cases t;exact k _ x
theorem two{P:List Y->Prop}(h:an R [a,b] us)(k:∀u v,R a u->R b v->P [u,v]):P us:=h.uncons λu r x t=>t.one (P:=λt=>P (_::t)) λv y=>k _ v x y
theorem mono(f:∀a b,R a b->U a b)(h:an R l r):an U l r:=by
 induction h with
 |nil=>exact .nil
 |cons a _ ih=>exact .cons (f _ _ a) ih
theorem mono'(h:an R l r)(f:∀a b,a∈l->b∈r->R a b->U a b):an U l r:=by
 induction h with
 |nil=>exact .nil
 |cons a _ ih=>exact .cons (f _ _ (.head _) (.head _) a) (ih λa b h h'=>f a b (.tail _ h) (.tail _ h'))
theorem append(h:an R l r)(h':an R l' r'):an R (l++l') (r++r'):=by
 induction h with
 |nil=>exact h'
 |cons a _ ih=>exact .cons a ih
theorem get(h:an R l r):∀(i:Nat)(a:T),l[i]?=some a->∃b,r[i]?=some b/\R a b:=by
 induction h with
 |nil=>intro i a e;simp at e
 |cons x _ ih=>
  intro i a e;induction i with
  |zero=>simp at e;subst e;exact(aK _ rfl x)
  |succ i=>exact ih i a (by simpa using e)
theorem get_none(h:an R l r)(i:Nat)(e:l[i]?=none):r[i]?=none:=by simp only[Se] at e⊢;exact sB h.length e
theorem take(h:an R l r):∀n,an R (l.take n) (r.take n):=by
 induction h with
 |nil=>intro n;simpa using an.nil
 |cons x _ ih=>intro n;induction n with
  |zero=>exact .nil
  |succ n=>exact .cons x (ih n)
theorem drop(h:an R l r):∀n,an R (l.drop n) (r.drop n):=by
 induction h with
 |nil=>intro n;simpa using an.nil
 |cons x h ih=>intro n;induction n with
  |zero=>exact .cons x h
  |succ n=>exact ih n
theorem reverse(h:an R l r):an R l.reverse r.reverse:=by
 induction h with
 |nil=>exact .nil
 |cons x _ ih=>simp only[List.reverse_cons,List.reverse_cons];exact ih.append (.cons x .nil)
theorem set(h:an R l r)(x:R a b):∀i,an R (l.set i a) (r.set i b):=by
 induction h with
 |nil=>intro i;exact .nil
 |cons y h ih=>intro i;induction i with
  |zero=>exact .cons x h
  |succ n=>exact .cons y (ih n)
theorem inj(h:an R l r)(f:∀a b v,R a v->R b v->a=b)(h':an R l' r):l=l':=by
 induction h generalizing l' with
 |nil=>cases h';rfl
 |cons x _ ih=>cases h' with
  |cons y t=>exact rR (f _ _ _ x y) (rR (ih t) rfl)
end
end an
noncomputable def bW(h:Heap):Nat->V->Value->Prop
 |_,.int i,v=>∃t,v=.int i t
 |_,.str x,v=>PyData.strOk x=true/\∃t,v=.str x t
 |n+1,.tup l,v=>∃a o items k,v=.ref a/\h.get? a=some o/\o.cls=.type "tuple" /\o.data=.seq items k/\an (bW h n) l items.toList
 |_,_,_=>False
theorem bW.ind{P:Nat->V->Value->Prop}(d:∀n i t,P n (.int i) (.int i t))(cs:∀n i t,PyData.strOk i=true->P n (.str i) (.str i t))(G:∀n l a o items k,h.get? a=some o->o.cls=.type "tuple" ->o.data=.seq items k->an (bW h n) l items.toList->(∀v x,bW h n v x->P n v x)->P (n+1) (.tup l) (.ref a)):∀n v x,bW h n v x->P n v x:=by
 intro n;induction n with
 |zero=>
  intro v x r;cases v<;>first|exact False.elim r|skip
  ·obtain⟨t,rfl⟩:=r;exact d _ _ _
  obtain⟨o,t,rfl⟩:=r;exact cs _ _ _ o
 |succ n m=>
  intro v x r;cases v<;>first|exact False.elim r|skip
  ·obtain⟨t,rfl⟩:=r;exact d _ _ _
  ·obtain⟨o,t,rfl⟩:=r;exact cs _ _ _ o
  exact ON (r) λa o items k w g z L s=>rR w (G n _ a o items k g z L s m)
section
variable{h:Heap}{n:Nat}{a b:V}{v:Value}
theorem bW.mkI:bW h n (.int i) (.int i t):=by induction n<;>exact⟨t,rfl⟩
theorem bW.mkS(o:PyData.strOk i=true):bW h n (.str i) (.str i t):=by induction n<;>exact⟨o,t,rfl⟩
theorem bW.toI(r:bW h n b v):∀i t,v=.int i t->b=.int i:=
 bW.ind (P:=λc b v=>∀i t,v=.int i t->b=.int i) (λc c c c c e=>by cases e;rfl) (λc c c c c c e=>Value.noConfusion e) (λc c c c c c c c c c c c c e=>Value.noConfusion e) n b v r
theorem bW.toS(r:bW h n b v):∀i t,v=.str i t->b=.str i:=
 bW.ind (P:=λc b v=>∀i t,v=.str i t->b=.str i) (λc c c c c e=>Value.noConfusion e) (λc c c c c c e=>by cases e;rfl) (λc c c c c c c c c c c c c e=>Value.noConfusion e) n b v r
theorem bW.toT(r:bW h n b v):∀x o items k m,v=.ref x->n=m+1->h.get? x=some o->o.data=.seq items k->∃l,b=.tup l/\an (bW h m) l items.toList:=
 bW.ind (P:=λn b v=>∀x o items k m,v=.ref x->n=m+1->h.get? x=some o->o.data=.seq items k->∃l,b=.tup l/\an (bW h m) l items.toList) (λc c c c c c c c e=>Value.noConfusion e) (λc c c c c c c c c e=>Value.noConfusion e)
  (λn l a o items k g c L s c x o' p k' m e w z Q=>by cases e;cases w;cases g.symm.trans z;cases L.symm.trans Q;exact(aK l rfl s)) n b v r
theorem bW.inj(w:bW h n a v)(g:bW h n b v):a=b:=
 bW.ind (P:=λn a v=>∀b,bW h n b v->a=b) (λc c c c r=>(r.toI _ _ rfl).symm) (λc c c c c r=>(r.toS _ _ rfl).symm) (λn l a o items k i c L s m b r=>by exact am (r.toT _ _ _ _ _ rfl rfl i L) λj T f=>rR T (PR V.tup (s.inj (λc c c x y=>m _ _ x _ y) f))) n a v w b g
theorem bW.keep(k:∀(b:Addr)(o:Obj),h.get? b=some o->(∃items n,o.data=.seq items n/\o.cls=.type "tuple")->h'.get? b=some o)(w:bW h n a v):bW h' n a v:=
 bW.ind (P:=λn a v=>bW h' n a v) (λc c c=>.mkI) (λc c c o=>.mkS o) (λn l a o items m g z L r p=>⟨a,o,items,m,rfl,k _ _ g ⟨_,_,L,z⟩,z,L,r.mono λc c=>p _ _⟩) n a v w
theorem bW.pure(w:bW h n a v):dN n a=true:=
 bW.ind (P:=λn a c=>dN n a=true) (λn c c=>by induction n<;>rfl) (λn c c o=>by induction n<;>exact o) (λn l a o items m g A L s k=>by
  show l.all (dN n)=true;rw[Qc];clear L;generalize items.toList=r at s;induction s with
  |nil=>exact bP
  |cons x _ ih'=>exactλz hz=>(P0.mp hz).elim (λe=>e▸k _ _ x) (ih' z)) n a v w
end
theorem ri{P:Nat->V->Prop}(d:∀n i,P n (.int i))(cs:∀n s,PyData.strOk s=true->P n (.str s))(G:∀n l,(∀x∈l,dN n x=true)->(∀x∈l,P n x)->P (n+1) (.tup l)):∀{n v},dN n v=true->P n v:=by
 intro n;induction n with
 |zero=>intro v h;cases v<;>first|exact d _ _|exact cs _ _ h|exact VC h PC
 |succ n k=>intro v h;cases v<;>first|exact d _ _|exact cs _ _ h|exact VC h PC|exact G _ _ (Qc.mp h) λx m=>k (Qc.mp h x m)
theorem qR{Z:V->Prop}(h:dN n v=true)(d:∀i,Z (.int i))(cs:∀s,Z (.str s))(G:∀m l,n=m+1->(∀x∈l,dN m x=true)->Z (.tup l)):Z v:=
 ri (P:=λm v=>m=n->Z v) (λa i a=>d i) (λa s a a=>cs s) (λm l h a e=>G m l e.symm h) h rfl
theorem xj{a:Z7}(k:∀x∈a,∀{b},dN n b=true->PyData.eqv (aZ x) (aZ b)=decide (x=b)):∀{b:Z7},(∀x∈b,dN n x=true)->PyData.eqvAll (aN a) (aN b)=decide (a=b):=by
 induction a with
 |nil=>intro b h;induction b<;>simp [aN,PyData.eqvAll]
 |cons x l ihl=>
  intro b h;cases b with
  |nil=>simp [aN,PyData.eqvAll]
  |cons y r=>simp only[aN,PyData.eqvAll,k x (.head _) (h y (.head _)),ihl (λx m=>k x (.tail _ m)) λx m=>h x (.tail _ m)];by_cases e:x=y<;>by_cases c:l=r<;>simp [e,c]
theorem yC(w:dN n a=true)(f:dN n b=true):PyData.eqv (aZ a) (aZ b)=decide (a=b):=
 ri (P:=λn a=>∀{b},dN n b=true->PyData.eqv (aZ a) (aZ b)=decide (a=b))
  (λn i b f=>qR (Z:=λb=>PyData.eqv (aZ (.int i)) (aZ b)=decide (V.int i=b)) f (λj=>by simp [aZ,PyData.eqv];rfl) (λj=>by simp [aZ,PyData.eqv]) λm l c c=>by simp [aZ,PyData.eqv])
  (λn i c b f=>qR (Z:=λb=>PyData.eqv (aZ (.str i)) (aZ b)=decide (V.str i=b)) f (λj=>by simp [aZ,PyData.eqv]) (λj=>by simp [aZ,PyData.eqv];rfl) λm l c c=>by simp [aZ,PyData.eqv])
  (λn l h k b f=>qR (Z:=λb=>PyData.eqv (aZ (.tup l)) (aZ b)=decide (V.tup l=b)) f (λj=>by simp [aZ,PyData.eqv]) (λj=>by simp [aZ,PyData.eqv]) λm g e h'=>by cases e;simp only[aZ,PyData.eqv,V.tup.injEq];exact xj k h') w f
theorem bW.reads(w:bW h n a v):∃as,Reads h v (aZ a) as:=
 bW.ind (P:=λb a v=>∃as,Reads h v (aZ a) as) (λb b b=>⟨_,.int _ _⟩) (λb b b b=>⟨_,.str _ _⟩) (λn l a o items m g z L s k=>by
  suffices∃as,ReadsAll h items.toList (aN l) as from this.elim λas r=>⟨as,.tuple g z L r⟩
  clear L;generalize items.toList=r at s;induction s with
  |nil=>exact⟨_,.nil⟩
  |cons x _ ih'=>exact(k _ _ x).elim λas C=>ih'.elim λbs d=>⟨_,.cons C d⟩) n a v w
theorem mh(h:∀x∈a,(aZ x).canLay0=true/\(aZ x).depth<=n):PyData.canLayAll0 (aN a)=true/\PyData.depthAll (aN a)<=n:=by
 induction a with
 |nil=>simp [aN,PyData.canLayAll0,PyData.depthAll]
 |cons x l ih=>have d:=ih λx m=>h x (.tail _ m);simp only[aN,PyData.canLayAll0,PyData.depthAll,(h x (.head _)).1,d.1,Bool.and_self,true_and];exact RH.mpr ⟨(h x (.head _)).2,d.2⟩
theorem ju(h:dN n a=true):(aZ a).canLay0=true/\(aZ a).depth<=n:=
 ri (P:=λn a=>(aZ a).canLay0=true/\(aZ a).depth<=n) (λn i=>by simp [aZ,PyData.canLay0,PyData.depth]) (λn s o=>by simpa [aZ,PyData.canLay0,PyData.depth] using o) (λn l b k=>by simp only[aZ,PyData.canLay0,PyData.depth];exact⟨(mh k).1,by exact lq (mh k).2⟩) h
theorem wF(w:bW s.heap n a u)(f:bW s.heap n b v)(B:A.units+n<cLine):SeqAt.EqAt A s u v (decide (a=b)):=PO (w.reads) λas M=>PO (f.reads) λbs C=>sB (yC w.pure f.pure) (SeqAt.eqAt_reads _ _ A s u v as bs M C (ju w.pure).1 (ju f.pure).1 (PJ (P8 (ID (Nat.min_le_left ..) (ju w.pure).2) _) B))
noncomputable def ga(w:World):Nat->V->Int
 |_,.int i=>hashInt i
 |_,.str x=>hashStr w x
 |n+1,.tup l=>reduceHash (Builtin.Tuple.tupleHashOf (l.map (ga w n)))
 |_,_=>0
noncomputable def fA:Nat->V->Nat
 |n+1,.tup l=>(l.map (fA n)).sum+1
 |_,_=>1
section
variable{prog:Program}{w:World}
theorem Ks{u:Type}{A:Around}{E:V8}{Q:u->Shared->Prop}{c:Prop}[i:Decidable c]{t e:Sem u}(h: ¬c)(k:wpAny M A e Q E s):wpAny M A (ite c t e) Q E s:=rR (PV h) k
theorem E5{M:Model}{A:Around}{E:V8}{h:Heap}{n:Nat}{l:Z7}{xs:X9}{f:Value->Array Int->Sem (ForInStep (Array Int))}(r:an (bW h n) l xs)(st:∀v x,bW h n v x->∀b s'(Q:ForInStep (Array Int)->Shared->Prop),s'.heap=h->Q (.yield (b.push (ga w n v))) {s' with toks:=s'.toks+fA n v}->wpAny M A (f x b) Q E s'):
  ∀{b s'}{Q:Array Int->Shared->Prop},s'.heap=h->(∀b':Array Int,b'.toList=b.toList++l.map (ga w n)->Q b' {s' with toks:=s'.toks+(l.map (fA n)).sum})->wpAny M A (forIn xs b f) Q E s':=by
 induction r with
 |nil=>exactλhs q=>Qa (q _ (Qm _).symm)
 | @cons v _ l _ x r ih=>intro b s' Q hs q;rw[SJ];refine PN (st _ _ x _ _ _ hs ?_);refine ih (Q:=Q) hs λb' e=>?_;have z:=q b' (e.trans (by rw[Uj,Qo];rfl));rw[QG,TI,<-QH] at z;exact z
theorem nj(n:Nat){E:V8}{s:Shared}{x:Value}{Q:Int->Shared->Prop}(m:bW s.heap n v x)(B:A.units+n<cLine)(h:Q (ga w n v) {s with toks:=s.toks+fA n v}):wpAny (model prog w) A (pyHash x) Q E s:=by
 refine bW.ind (h:=s.heap) (P:=λn v x=>∀(A:Around)(E:V8)(s':Shared)(Q:Int->Shared->Prop),s'.heap=s.heap->A.units+n<cLine->Q (ga w n v) {s' with toks:=s'.toks+fA n v}->wpAny (model prog w) A (pyHash x) Q E s')
  (λn i t A E s' Q c c h=>by induction n<;>exact wpAny_pyHash_int h) (λn i t c A E s' Q c c h=>by induction n<;>exact wpAny_pyHash_str h) (λn l a o items k g z L r p A E s' Q hs B h=>?_) n v x m A E s Q rfl B h;replace g:s'.heap.get? a=some o:=hs▸g;have T:s'.TypeIs (.ref a) "tuple":=⟨o,g,z⟩
 first|refine PN (wpAny_cRoomFor_or (.inr (lq B)) ?_)|skip
 refine PN (S9 T Tj.lookup ?_);show wpAny _ _ (if(some (Value.builtin "tuple.__hash__")==some Value.none)=true then _ else _) Q E s';refine Ks PC (PN (S9 T Tj.lookup ?_));refine PN (wpAny_callSpecialIfBoundUnlessNone?_slot T Tj (Sx Tj T F.entry_tuple_hash ?_ (F.args_tuple_hash_1 _)));show wpAny _ _ (Builtin.Tuple.tupleItemsOf (.ref a)>>=_) _ _ s';refine PN (wpAny_tupleItemsOf g L (PN ?_));refine sB Vk (E5 (w:=w) r (λv x m b q M Y y=>?_) hs λb f=>?_)
 ·exact PN (p _ _ m _ _ _ _ Y (lq B) (Qa y))
 show wpAny _ _ (retInt (Builtin.Tuple.tupleHashOf b.toList)) _ _ _;refine rR (show b.toList=l.map (ga w n) from f) (wpAny_ret_mkInt (?_:wpAny _ _ (if(decide (-(2:Int)^63<=Builtin.Tuple.tupleHashOf (l.map (ga w n)))&&decide (Builtin.Tuple.tupleHashOf (l.map (ga w n))<2^63))=true then _ else _) Q E _));have h:Q (reduceHash (Builtin.Tuple.tupleHashOf (l.map (ga w n)))) {s' with toks:=s'.toks+((l.map (fA n)).sum+1)}:=h;unfold reduceHash at h;by_cases j:(decide (-(2:Int)^63<=Builtin.Tuple.tupleHashOf (l.map (ga w n)))&&decide (Builtin.Tuple.tupleHashOf (l.map (ga w n))<2^63))=true
 ·rw[PW j] at h;exact rR (PW j) (Qa h)
 rw[PV j] at h;exact rR (PV j) (PN (Vy (Qa h)))
theorem xH(n m:Nat){E:V8}{Q:Bool->Shared->Prop}(p:bW s.heap n v x)(M:n<=m)(h:Q true s):wpAny (model prog w) A (eqIsQuiet m x) Q E s:=by
 refine bW.ind (h:=s.heap) (P:=λn v x=>∀(m:Nat)(Q:Bool->Shared->Prop),n<=m->Q true s->wpAny (model prog w) A (eqIsQuiet m x) Q E s)
  (λn i t m Q b h=>rR (eqIsQuiet_byValue _ rfl) (Qa h)) (λn i t b m Q b h=>rR (eqIsQuiet_byValue _ rfl) (Qa h)) (λn l a o items k g z L u q m Q M h=>?_) n v x p m Q M h;induction m with
 |zero=>exact VC M (Sj n)
 |succ m=>
  unfold eqIsQuiet;refine PN (S9 (⟨o,g,z⟩:s.TypeIs (.ref a) "tuple") F.slot_tuple_eq.lookup ?_);refine PN (wpAny_isInstance (⟨o,g,z⟩:s.TypeIs (.ref a) "tuple") isSubtype_tuple_tuple ?_);refine PN (wpAny_seqItems g L ?_);refine PN (sB Vk (wpAny_forIn_list _ (λrest r s'=>r.1=none/\s'=s/\∃left,an (bW s.heap n) left rest) _ ?_ ?_ _ _ ⟨rfl,rfl,l,u⟩))
  ·rintro v rest r s' ⟨j,rfl,left,hl'⟩;cases hl' with
   |cons h1 hl''=>refine PN (q _ _ h1 m _ (Rg M) ?_);simp only[Bool.not_true,Q6,Tk];exact Qa ⟨rfl,rfl,_,hl''⟩
  rintro⟨N,y⟩ s' ⟨j,rfl,_⟩;simp only at j;subst j;exact Qa h
def B7(prog:Program)(w:World):HeapKind prog w V where
 is:=λh v a=>bW h 4 v (.ref a)
 hash:=ga w 4
 draws:=fA 4
 room:=λA=>A.units+4<cLine
 inj:=λi C=>i.inj C
 keeps:=λ{h h' k a d o es ep} x l L hs=>x.keep λb o' e ⟨items,n,T,j⟩=>by
  have g:b≠d:=by rintro rfl;rw[l] at e;cases e;rw[L] at T;cases T
  exact(hs.2 b g).trans e
 pyHash:=λB c h=>nj 4 c B h
 eqBool:=λ{A E s x y a b Q} B i C h=>wF i C B _ _ _ _ h
 quiet:=λc h=>xH 4 8 c (by decide) h
end
mutual
noncomputable def aG(σ:Hp)(h:Heap):V->Value->Prop
 |.none,v=>v=.none
 |.bool b,v=>v=.bool b
 |.int i,v=>∃t,v=.int i t
 |.str x,v=>∃t,v=.str x t
 |.tup l,v=>∃a items n,v=.ref a/\σ a=none/\IsT h a items n/\iB σ h l items.toList
 |.ref a,v=>v=.ref a/\(σ a).isSome=true
 |.rng n,v=>∃a t u w,v=.ref a/\σ a=none/\IsRange h a 0 n 1 t u w
 |.fro a,v=>v=.ref a
noncomputable def iB(σ:Hp)(h:Heap):Z7->X9->Prop
 |[],vs=>vs=[]
 |x::l,vs=>∃v r,vs=v::r/\aG σ h x v/\iB σ h l r
end
mutual
theorem qw:∀{l:Z7}{r:X9},iB σ h l r↔an (aG σ h) l r:=by
 intro m;induction m with
 |nil=>intro r;exact⟨λe=>rR e .nil,λx=>by cases x;rfl⟩
 |cons x l ih=>
  intro r;constructor
  ·rintro⟨v,G,rfl,hx,hl⟩;exact .cons hx (ih.mp hl)
  intro x;cases x with
  |cons hx hl=>exact(ng _ _ rfl hx (ih.mpr hl))
theorem aG.toP:∀{n:Nat}{a:V}{v:Value},dN n a=true->aG σ h a v->bW h n a v
 |n,a,v,w,i=>by
  induction n generalizing a v with
  |zero=>cases a<;>first|exact VC w PC|exact i|exact⟨w,i⟩
  |succ n m=>
   cases a<;>first|exact VC w PC|skip
   ·exact i
   ·exact⟨w,i⟩
   refine zG (i) λa items n b _ j r=>rR b (N4 a _ items n rfl j rfl rfl ?_);exact(qw.mp r).mono' λx y k c g=>m _ _ ((Qc.mp (w:l.all (dN _)=true)) x k) g
structure aA(X:Addr->Prop)(σ:Hp)(s:Shared)(ma:Hp)(s':Shared):Prop where
 keep:∀b o,¬X b->s.heap.get? b=some o->σ b=none->s'.heap.get? b=some o
 free:∀b o,s.heap.get? b=some o->σ b=none->ma b=none
 dom:∀b,(σ b).isSome=true->(ma b).isSome=true
 os:s'.os=s.os
abbrev aS:Addr->Prop:=λa=>False
theorem aA.refl{X σ s}:aA X σ s σ s:=⟨λa a a e a=>e,λa a a e=>e,λa e=>e,rfl⟩
theorem aA.weaken{X Y σ s ma s'}(a:aA X σ s ma s')(h:∀b o,s.heap.get? b=some o->X b->Y b):aA Y σ s ma s':=
 ⟨λb o B e f=>a.keep b o (λi=>B (h b o e i)) e f,a.free,a.dom,a.os⟩
theorem aA.toks{X σ s ma}(a:aA X σ s ma s'):aA X σ s ma {s' with toks:=n}:=⟨a.keep,a.free,a.dom,a.os⟩
def gU(o:Obj):Prop:=(o.cls=.type "tuple" ->∀items n,o.data≠.seq items n)/\(o.cls=.type "range" ->∀vs,o.data≠.fields vs)
def aP(h:Heap)(X:Addr->Prop):=∀b o,X b->h.get? b=some o->gU o
theorem aP.none:aP h aS:=λa a x=>x.elim
theorem aP.offSeq{X:Addr->Prop}(f:aP h X)(g:h.get? b=some o)(z:o.cls=.type "tuple")(L:o.data=.seq items n): ¬X b:=λx=>(f b o x g).1 z _ _ L
theorem aP.offRange{X:Addr->Prop}(f:aP h X)(g:h.get? b=some o)(z:o.cls=.type "range")(L:o.data=.fields vs): ¬X b:=λx=>(f b o x g).2 z _ L
end
mutual
theorem aG.grow{X:Addr->Prop}(g:aA X σ s ma s')(k:aP s.heap X):∀{a:V}{v:Value},aG σ s.heap a v->aG ma s'.heap a v
 |.none,_,h=>h
 |.bool _,_,h=>h
 |.int _,_,h=>h
 |.str _,_,h=>h
 |.tup l,v,i=>by refine zG (i) λa items n o e j r=>?_;subst o;exact⟨a,items,n,rfl,g.free a _ j e,g.keep a _ (k.offSeq j rfl rfl) j e,iB.grow g k r⟩
 |.ref a,v,i=>by exact⟨i.1,g.dom a i.2⟩
 |.rng n,v,i=>by refine NK (i) λa t u w f e j=>?_;subst f;exact(OL a t u w rfl (g.free a _ j e) (g.keep a _ (k.offRange j rfl rfl) j e))
 |.fro a,v,i=>i
theorem iB.grow{X:Addr->Prop}{s s':Shared}(g:aA X σ s ma s')(i:aP s.heap X):∀{a:Z7}{v:X9},iB σ s.heap a v->iB ma s'.heap a v
 |[],_,h=>h
 |a::l,v,hr=>by exact dg (hr) λx r w j t=>rR w ⟨x,r,rfl,aG.grow g i j,iB.grow g i t⟩
end
mutual
def bF(w:World)(σ:Hp)(h:Heap)(p:V×V)(e:DictEntry):Prop:=cF p.1=true/\aG σ h p.1 e.key/\e.hash=ga w 4 p.1/\aG σ h p.2 e.val
def iO(σ:Hp)(h:Heap)(p:Str×V)(e:DictEntry):Prop:=(∃t,e.key=.str p.1 t)/\aG σ h p.2 e.val
def wJ(w:World)(σ:Hp)(h:Heap)(a:Addr):O->Prop
 |.list l=>∃items n,h.get? a=some (listOf items n)/\an (aG σ h) l items.toList
 |.dict es=>∃v n,h.get? a=some {cls:=.type "dict",data:=.dict v n}/\an (bF w σ h) es v.toList/\(es.map (·.1)).Nodup
 |.inst C dx u=>σ dx=some (.slot a)/\h.get? a=some (instObj C dx)/\∃es n,h.get? dx=some (dictOf es n)/\an (iO σ h) u es/\(u.map (·.1)).Nodup
 |.slot b=>∃C u,σ b=some (.inst C a u)
theorem aA.trans{σ s ma s' σ'' s''}(a:aA aS σ s ma s')(b:aA aS ma s' σ'' s''):aA aS σ s σ'' s'':=
 ⟨λx o i e f=>b.keep x o i (a.keep x o i e f) (a.free x o e f),
  λx o e f=>b.free x o (a.keep x o (λh=>h) e f) (a.free x o e f),λx e=>b.dom x (a.dom x e),b.os.trans a.os⟩
structure aU(w:World)(h₀:Heap)(σ:Hp)(s:Shared):Prop where
 conc:∀a o,σ a=some o->wJ w σ s.heap a o
 old:∀b o,h₀.get? b=some o->σ b=none/\s.heap.get? b=some o
 gens:s.gens=#[]
theorem aU.live{w h₀ σ s}(R:aU w h₀ σ s)(e:(σ a).isSome=true):∃o,s.heap.get? a=some o:=by
 refine PO (Q3.mp e) λo e=>?_;have c:=R.conc a o e;induction o with
 |list l=>exact eA c λf f h _=>⟨_,h⟩
 |dict es=>exact eA c λf f h _=>⟨_,h⟩
 |inst C dx u=>exact⟨_,c.2.1⟩
 |slot b=>refine i5 c λC u g=>?_;have d:=R.conc b _ g;exact eA d.2.2 λes n k _=>⟨_,k⟩
theorem aU.fresh{w h₀ σ}(R:aU w h₀ σ s)(h:s.heap.get? a=none):σ a=none:=by
 cases e:σ a with
 |none=>rfl
 |some o=>refine PO (R.live (a:=a) (by refine(Qe (e))▸?_;rfl)) λob g=>?_;replace g:=(h)▸g;cases g
theorem bH(h:Heap):h.get? h.objs.size=none:=by
 cases e:h.get? h.objs.size with
 |none=>rfl
 |some o=>exact VC (RM e) (RN _)
theorem lH{h:Heap}(z:h.objs.size<=a):h.get? a=none:=by
 cases e:h.get? a with
 |none=>rfl
 |some o=>exact VC (RM e) (TF.mpr z)
theorem aU.oldGet{w h₀ σ s}(R:aU w h₀ σ s):∀b o,h₀.get? b=some o->s.heap.get? b=some o:=λb o e=>(R.old b o e).2
theorem aU.toks{w h₀ σ s n}(R:aU w h₀ σ s):aU w h₀ σ {s with toks:=n}:=⟨R.conc,R.old,R.gens⟩
theorem aU.lists{w h₀ σ s}(R:aU w h₀ σ s)(e:σ a=some (.list l)):∃items,s.heap.IsList a items/\an (aG σ s.heap) l items.toList:=
 let ⟨B,n,h,r⟩:=R.conc a _ e
 (aK B ⟨_,h,rfl,n,rfl⟩ r)
theorem aU.more{w h₀ σ}(R:aU w h₀ σ s)(k:∀b o,s.heap.get? b=some o->s'.heap.get? b=some o)(g:s'.gens=s.gens)(os:s'.os=s.os):
  aU w h₀ σ s'/\aA aS σ s σ s':=by
 have G:aA aS σ s σ s':=⟨λb o d e d=>k b o e,λd d d e=>e,λd e=>e,os⟩
 have F:aP s.heap aS:=aP.none
 refine⟨⟨λa o e=>?_,λb o e=>⟨(R.old b o e).1,k b o (R.old b o e).2⟩,g.trans R.gens⟩,G⟩
 have c:=R.conc a o e
 induction o with
 |list l=>exact eA (c) λB n h r=>⟨B,n,k _ _ h,r.mono λd d x=>x.grow G F⟩
 |dict es=>exact dg (c) λv n i f L=>⟨v,n,k _ _ i,f.mono λd d x=>⟨x.1,x.2.1.grow G F,x.2.2.1,x.2.2.2.grow G F⟩,L⟩
 |inst C dx u=>exact dg (c.2.2) λes n z m t=>⟨c.1,k _ _ c.2.1,es,n,k _ _ z,m.mono λd d x=>⟨x.1,x.2.grow G F⟩,t⟩
 |slot b=>exact c
theorem aU.moreX{w h₀ σ}{X:Addr->Prop}(R:aU w h₀ σ s)(F:aP s.heap X)(j:∀b,X b->σ b=none/\h₀.get? b=none)(k:∀b o,¬X b->s.heap.get? b=some o->s'.heap.get? b=some o)(g:s'.gens=s.gens)(os:s'.os=s.os):
  aU w h₀ σ s'/\aA X σ s σ s':=by
 have G:aA X σ s σ s':=⟨λb o m e d=>k b o m e,λd d d e=>e,λd e=>e,os⟩
 have own:∀a o,σ a=some o-> ¬X a:=λa o e x=>by replace e:=((j a x).1)▸e;cases e
 refine⟨⟨λa o e=>?_,λb o e=>⟨(R.old b o e).1,k b o (λx=>by replace e:=((j b x).2)▸e;cases e) (R.old b o e).2⟩,g.trans R.gens⟩,G⟩
 have c:=R.conc a o e
 induction o with
 |list l=>exact eA (c) λB n h r=>⟨B,n,k _ _ (own _ _ e) h,r.mono λd d x=>x.grow G F⟩
 |dict es=>exact dg (c) λv n Y y t=>⟨v,n,k _ _ (own _ _ e) Y,y.mono λd d x=>⟨x.1,x.2.1.grow G F,x.2.2.1,x.2.2.2.grow G F⟩,t⟩
 |inst C dx u=>exact dg (c.2.2) λes n J p i=>⟨c.1,k _ _ (own _ _ e) c.2.1,es,n,k _ _ (own _ _ c.1) J,p.mono λd d x=>⟨x.1,x.2.grow G F⟩,i⟩
 |slot b=>exact c
theorem bO:upd σ a o a=some o:=by simp [upd]
theorem bT(h:b≠a):upd σ a o b=σ b:=by simp [upd,h]
theorem iS(h:(σ b).isSome=true):(upd σ a o b).isSome=true:=by unfold upd;split<;>simp_all
theorem qP(k:∀x q,x≠b->s.heap.get? x=some q->s'.heap.get? x=some q)(ob:(σ b).isSome=true\/s.heap.get? b=none)(C:(σ a).isSome=true\/s.heap.get? a=none)(os:s'.os=s.os):aA aS σ s (upd σ a o) s':=
 ⟨λx q c e f=>k x q (λh=>by
   subst h;refine RD ob (λp=>?_) λp=>?_
   ·replace p:=f▸p;cases p
   ·replace e:=p▸e;cases e) e,
  λx q i e=>by
   by_cases h:x=a
   ·subst h;refine RD C (λp=>?_) λp=>?_
    ·replace p:=e▸p;cases p
    replace i:=p▸i;cases i
   refine rR (bT h) ?_;exact e,
  λx e=>iS e,os⟩
theorem wJ.mono(c:wJ w σ h x o)(G:∀v u,aG σ h v u->aG ma h' v u)(k:(∀y,o≠.slot y)->∀q,h.get? x=some q->h'.get? x=some q)(b:∀C dx z,o=.inst C dx z->(∀q,h.get? dx=some q->h'.get? dx=some q)/\(σ dx=some (.slot x)->ma dx=some (.slot x)))(ks:∀y,o=.slot y->∀C z,σ y=some (.inst C x z)->∃C z,ma y=some (.inst C x z)):wJ w ma h' x o:=by
 induction o with
 |list l=>exact eA c λB n s r=>⟨B,n,k (λy=>O.noConfusion) _ s,r.mono G⟩
 |dict es=>exact dg c λA n s r nd=>⟨A,n,k (λy=>O.noConfusion) _ s,r.mono λa a x=>⟨x.1,G _ _ x.2.1,x.2.2.1,G _ _ x.2.2.2⟩,nd⟩
 |inst C dx z=>exact dg c.2.2 λes n s r nd=>⟨(b C dx z rfl).2 c.1,k (λy=>O.noConfusion) _ c.2.1,es,n,(b C dx z rfl).1 _ s,r.mono λa a x=>⟨x.1,G _ _ x.2⟩,nd⟩
 |slot y=>exact i5 c λC z p=>ks y rfl C z p
theorem aU.step{w h₀ σ}(R:aU w h₀ σ s)(k:∀x q,x≠b->s.heap.get? x=some q->s'.heap.get? x=some q)(ob:(σ b).isSome=true\/s.heap.get? b=none)(I:(σ a).isSome=true\/s.heap.get? a=none)(apart:∀x q,x≠a->σ x=some q->x≠b\/(∃y,q=.slot y))(j:∀x C dx u,x≠a->σ x=some (.inst C dx u)->dx≠b/\dx≠a)(slots:∀x y,x≠a->σ x=some (.slot y)->y≠a\/∃C u,o=.inst C x u)(c:aA aS σ s (upd σ a o) s'->wJ w (upd σ a o) s'.heap a o)(g:s'.gens=s.gens)(os:s'.os=s.os):
  aU w h₀ (upd σ a o) s'/\aA aS σ s (upd σ a o) s':=by
 refine⟨⟨λx q e=>?_,λx q e=>?_,g.trans R.gens⟩,(qP (o:=o) k ob I os)⟩
 ·by_cases h:x=a
  ·subst h;replace e:=bO▸e;cases e;exact c (qP (o:=o) k ob I os)
  replace e:=(bT h)▸e;have cc:=R.conc x q e;have N:=apart x q h e;exact cc.mono (λd d x=>x.grow (qP (o:=o) k ob I os) (aP.none:aP s.heap aS)) (λn q=>k _ _ (N.resolve_right λz=>z.elim n)) (λC dx u J=>have z:=j x C dx u h (sB J e);⟨λq=>k _ _ z.1,(bT z.2).trans⟩) λy J C u p=>(slots x y h (sB J e)).elim (λB=>(vy C u ((bT B).trans p))) λz=>i5 z λv fs' L=>by
   by_cases B:y=a
   ·exact⟨v,fs',sB B (sB L bO)⟩
   exact(vy C u ((bT B).trans p))
 ·have G:=R.old x q e;have r:x≠a:=by
   rintro rfl;refine RD I (λp=>?_) λp=>?_
   ·replace p:=G.1▸p;cases p
   replace G:=p▸G;cases G.2
  have i:x≠b:=by
   rintro rfl;refine RD ob (λp=>?_) λp=>?_
   ·replace p:=G.1▸p;cases p
   replace G:=p▸G;cases G.2
  exact⟨(bT r).trans G.1,k x q i G.2⟩
noncomputable def pW:O->Bool
 |.list _=>true
 |.dict _=>true
 |_=>false
theorem aU.push{w h₀ σ}(R:aU w h₀ σ s)(i:ob.isFreed=false)(g:pW o=true)(c:∀s',s'={s with heap:=s.heap.push ob,toks:=n}->aA aS σ s (upd σ s.heap.objs.size o) s'->wJ w (upd σ s.heap.objs.size o) s'.heap s.heap.objs.size o):
  aU w h₀ (upd σ s.heap.objs.size o) {s with heap:=s.heap.push ob,toks:=n}/\aA aS σ s (upd σ s.heap.objs.size o) {s with heap:=s.heap.push ob,toks:=n}:=by
 let _:=i
 have f:∀x q,σ x=some q->x≠s.heap.objs.size:=λx q e h=>by subst h;replace e:=(R.fresh (bH _))▸e;cases e
 refine R.step (b:=s.heap.objs.size) (λx q a e=>Ql _ e) (.inr (bH _)) (.inr (bH _))
  (λx q h e=>.inl (f x q e)) (λx C dx u h e=>?_) (λx y h e=>.inl ?_) (c _ rfl) rfl rfl
 ·have:=(R.conc x _ e).1;exact⟨f dx _ this,f dx _ this⟩
 ·exact i5 (R.conc x _ e) λC u p=>f y _ p
theorem aU.write{w h₀ σ}(R:aU w h₀ σ s)(e:σ a=some o)(i:pW o=true)(hs:Heap.SameBut a s.heap s'.heap)(c:aA aS σ s (upd σ a o') s'->wJ w (upd σ a o') s'.heap a o')(g:s'.gens=s.gens)(os:s'.os=s.os):aU w h₀ (upd σ a o') s'/\aA aS σ s (upd σ a o') s':=by
 have own:(σ a).isSome=true:=by refine rR e ?_;rfl
 have j:∀x C dx u,σ x=some (.inst C dx u)->dx≠a:=λx C dx u q h=>by have:=(R.conc x _ q).1;replace this:=(h)▸this;replace this:=(e)▸this;cases this;cases i
 refine R.step (b:=a) (λx q h=>(hs.2 x h).trans) (.inl own) (.inl own) (λx q h d=>.inl h) (λx C dx u d q=>⟨j x C dx u q,j x C dx u q⟩)
  (λx y d q=>.inl ?_) c g os
 refine i5 (R.conc x _ q) λC u p=>?_
 rintro rfl
 replace p:=(e)▸p
 cases p
 cases i
theorem aU.field{w h₀ σ}(R:aU w h₀ σ s)(e:σ a=some (.inst C dx fs))(hs:Heap.SameBut dx s.heap s'.heap)(c:aA aS σ s (upd σ a (.inst C dx fs')) s'->∃es n,s'.heap.get? dx=some (dictOf es n)/\an (iO (upd σ a (.inst C dx fs')) s'.heap) fs' es/\(fs'.map (·.1)).Nodup)(g:s'.gens=s.gens)(os:s'.os=s.os):aU w h₀ (upd σ a (.inst C dx fs')) s'/\aA aS σ s (upd σ a (.inst C dx fs')) s':=by
 have own:(σ a).isSome=true:=by refine(Qe e)▸?_;rfl
 have r:=R.conc a _ e;have d:=r.1;have v:dx≠a:=by rintro h;replace d:=h▸d;replace d:=e▸d;cases d
 refine R.step (b:=dx) (λx q h=>(hs.2 x h).trans) (.inl (by refine(Qe d)▸?_;rfl)) (.inl own) (λx q h p=>?_) (λx u t o h q=>?_)
  (λx y h q=>?_) (λG=>⟨(bT v).trans d,(hs.2 a (SX v)).trans r.2.1,c G⟩) g os
 ·by_cases i:x=dx
  ·subst i;replace p:=d▸p;cases p;exact .inr ⟨_,rfl⟩
  exact .inl i
 ·have p:=(R.conc x _ q).1;refine⟨λk=>?_,λk=>?_⟩
  ·replace p:=k▸p;replace p:=d▸p;cases p;exact h rfl
  replace p:=k▸p;replace p:=e▸p;cases p
 ·by_cases B:y=a
  ·subst B;refine i5 (R.conc x _ q) λu o p=>?_;replace p:=e▸p;cases p;exact .inr (vy _ _ rfl)
  exact .inl B
abbrev bE:Value->Shared->Prop:=λa a=>False
def aQ(w:World)(h₀:Heap)(σ:Hp)(s:Shared)(Q:V->Hp->Prop)(v:Value)(s':Shared):Prop:=
 ∃u o,aU w h₀ o s'/\aA aS σ s o s'/\aG o s'.heap u v/\Q u o
end
section
variable{prog:Program}{w:World}{A:Around}{h₀:Heap}{σ:Hp}{s:Shared}
section
variable{Q:V->Hp->Prop}
mutual
theorem aQ.val(R:aU w h₀ σ s)(r:aG σ s.heap u v)(q:Q u σ):aQ w h₀ σ s Q v {s with toks:=n}:=
 ⟨u,σ,R.toks,aA.refl.toks,r,q⟩
theorem aQ.val'(R:aU w h₀ σ s)(r:aG σ s.heap u v)(q:Q u σ):aQ w h₀ σ s Q v s:=⟨u,σ,R,aA.refl,r,q⟩
theorem aQ.back(G:aA aS σ s ma s')(r:aQ w h₀ ma s' Q v s''):aQ w h₀ σ s Q v s'':=
 oU r λu C R g e q=>Et u C R (G.trans g) e q
theorem aG.list_get{items:Array Value}(r:an (aG σ s.heap) l items.toList){i:Nat}(e:l[i]?=some x):∃y,items[i]?=some y/\aG σ s.heap x y:=am (r.get i x e) λy B m=>(aK y (by refine(Rc)▸?_;exact B) m)
theorem bz{t d:Type}{R:t->d->Prop}{l:List t}{items:Array d}(r:an R l items.toList):items.size=l.length:=by simp only[r.length,S5]
theorem aQ.go{P E:V8}(h:wpAny M A x (aQ w h₀ σ s Q) bE s)(k:∀v s₁ u Y,aU w h₀ Y s₁->aA aS σ s Y s₁->aG Y s₁.heap u v->Q u Y->P v s₁):wpAny M A x P E s:=
 Qj h (λa a z=>z.elim λu z=>z.elim λo z=>k _ _ u o z.1 z.2.1 z.2.2.1 z.2.2.2) λa a x=>x.elim
theorem aQ.backs(G:aA aS σ s ma s')(h:wpAny M A x (aQ w h₀ ma s' Q) bE s'):wpAny M A x (aQ w h₀ σ s Q) bE s':=
 Qj h (λa a z=>z.back G) λa a x=>x
theorem aQ.list(R:aU w h₀ σ s){l:Z7}{vs:Array Value}(r:an (aG σ s.heap) l vs.toList)(q:alloc (.list l) σ Q){n:Nat}:
  aQ w h₀ σ s Q (.ref s.heap.objs.size) {s with heap:=s.heap.push {cls:=.type "list",data:=.seq vs},toks:=n}:=by
 have:=R.push (ob:={cls:=.type "list",data:=.seq vs}) (o:=.list l) (n:=n) rfl rfl (λs' e G=>by subst e;exact⟨vs,0,QV _ rfl,r.mono λa a x=>x.grow G aP.none⟩)
 exact⟨.ref s.heap.objs.size,_,this.1,this.2,⟨rfl,by refine rR bO ?_;rfl⟩,q _ (R.fresh (bH _))⟩
theorem aQ.tup(R:aU w h₀ σ s){l:Z7}{vs:Array Value}(r:an (aG σ s.heap) l vs.toList)(q:Q (.tup l) σ){n:Nat}:
  aQ w h₀ σ s Q (.ref s.heap.objs.size) {s with heap:=s.heap.push {cls:=.type "tuple",data:=.seq vs},toks:=n}:=by
 have:=R.more (s':={s with heap:=s.heap.push {cls:=.type "tuple",data:=.seq vs},toks:=n}) (λb o e=>Ql _ e) rfl rfl
 refine⟨.tup l,σ,this.1,this.2,?_,q⟩
 exact(Nf _ vs 0 rfl (R.fresh (bH _)) (QV _ rfl) (qw.mpr (r.mono λa a x=>x.grow this.2 aP.none)))
theorem gf(h:n<=lim):n<=sizeLine:=ID h dD
theorem bD:aG σ h (.int i) (.int i t):=⟨_,rfl⟩
theorem gQ:aG σ h (.str x) (.str x t):=⟨_,rfl⟩
theorem jL:aG σ h (.bool b) (.bool b):=rfl
theorem fg:aG σ h .none .none:=rfl
theorem aG.int_inv(x:aG σ h (.int i) v):∃t,v=.int i t:=x
theorem aG.str_inv(x:aG σ h (.str i) v):∃t,v=.str i t:=x
theorem aG.bool_inv(x:aG σ h (.bool i) v):v=.bool i:=x
theorem aG.none_inv(x:aG σ h .none v):v=.none:=x
theorem aG.ref_inv(x:aG σ h (.ref a) v):v=.ref a:=x.1
theorem aG.tup_inv(x:aG σ h (.tup l) v):∃a items n,v=.ref a/\σ a=none/\IsT h a items n/\an (aG σ h) l items.toList:=zG (x) λa items n B c N j=>(Nf a items n B c N (qw.mp j))
theorem Iy{op:Operator}{x y:V}{u v:Value}(R:aU w h₀ σ s)(i:aG σ s.heap x u)(B:aG σ s.heap y v)(h:wy σ Q op x y):
  wpAny (model prog w) A (binaryOp op u v) (aQ w h₀ σ s Q) bE s:=by
 induction h with
 |addl J M hz q=>exact rR i.ref_inv (rR B.ref_inv (eA (R.conc _ _ J) λN j G d=>eA (R.conc _ _ M) λY b I k=>P.add_list G I (aQ.list (n:=s.toks) R (by simpa using d.append k) q) (rR (bz d) (rR (bz k) (gf hz)))))
 |adds h q=>exact PO i.str_inv λt L=>L▸(PO B.str_inv λC L=>rR L (add_str (λC c=>aQ.val R gQ q) (ID h dD)))
 |add q=>refine PO i.int_inv λt T=>?_;subst T;refine PO B.int_inv λC T=>?_;subst T;exact P.add_int (aQ.val R bD q)
 |sub q=>refine PO i.int_inv λt o=>?_;subst o;refine PO B.int_inv λC o=>?_;subst o;exact P.sub_int (aQ.val R bD q)
 |mul h q=>refine PO i.int_inv λt r=>?_;subst r;refine PO B.int_inv λC r=>?_;subst r;exact P.mul_int (aQ.val R bD q) (IntMulOk.of_left (intBits_le h))
 |mod h q=>refine PO i.int_inv λt z=>?_;subst z;refine PO B.int_inv λC z=>?_;subst z;exact mod_int h (aQ.val R bD q)
 |div h h' q=>refine PO i.int_inv λt e=>rR e (PO B.int_inv λC e=>?_);subst e;exact floordiv_int h (aQ.val R bD q) (.inl (PyProof.noPylong_small (Q0 h' dD)))
 |or q=>refine PO i.int_inv λt U=>?_;subst U;refine PO B.int_inv λC U=>?_;subst U;exact or_int (aQ.val R bD q)
 |and q=>refine PO i.int_inv λt l=>?_;subst l;refine PO B.int_inv λC l=>?_;subst l;exact and_int (aQ.val R bD q)
 |shl h h' f q=>refine PO i.int_inv λt a=>?_;subst a;refine PO B.int_inv λC a=>?_;subst a;exact lshift_int_small h h' f (aQ.val R bD q)
theorem xI{op:Operator}{x y:V}{u v:Value}(R:aU w h₀ σ s)(i:aG σ s.heap x u)(B:aG σ s.heap y v)(h:K5 σ Q op x y)(g:op=.Add\/op=.Sub\/op=.BitOr\/op=.BitAnd):
  wpAny (model prog w) A (inplaceOp op u v) (aQ w h₀ σ s Q) bE s:=by
 obtain⟨q⟩:=h
 obtain⟨t,rfl⟩:=i.int_inv;obtain⟨C,rfl⟩:=B.int_inv
 rcases g with rfl|rfl|rfl|rfl
 ·cases q with|add q=>exact P.iadd_int (aQ.val R bD q)
 ·cases q with|sub q=>exact P.isub_int (aQ.val R bD q)
 ·cases q with|or q=>exact ior_int (aQ.val R bD q)
 ·cases q with|and q=>exact iand_int (aQ.val R bD q)
theorem Kf(R:aU w h₀ σ s)(j:aG σ s.heap (.int i) u)(h:Q (.int (-i)) σ):wpAny (model prog w) A (unaryOp .USub u) (aQ w h₀ σ s Q) bE s:=PO (j.int_inv) λt c=>rR c (P.neg_int (aQ.val R bD h))
set_option tactic.hygienic true in
theorem nQ{x:V}{u:Value}{K:Bool->Shared->Prop}(R:aU w h₀ σ s)(j:aG σ s.heap x u)(h:Tr σ x b)(q:∀n,K b {s with toks:=n}):wpAny (model prog w) A (PySem.truthy u) K bE s:=by
 induction h with
 |none=>exact rR j.none_inv (truthy_none (q s.toks))
 |bool=>exact(Qe (j.bool_inv))▸(Sk (q s.toks))
 |int=>
  rename_i i
  exact jn (j.int_inv) λt C=>rR C (P.truthy_int (rR (show(i !=0)=decide (i≠0) by by_cases h:i=0<;>simp [h]) (q s.toks)))
 |list e v=>
  rename_i a l
  refine(j.ref_inv)▸(eA (R.conc _ _ e) λM k r N=>?_)
  have hs:=bz N
  exact wpAny_truthy_list (Sr r) (by have:l.length<=1000000:=v;lia) ((Qe (show M.isEmpty=l.isEmpty by simp only[Array.isEmpty,hs];induction l<;>rfl))▸(q _))
end
end
theorem an.findIdx{t d:Type}{R:t->d->Prop}{p:t->Bool}{q:d->Bool}{l:List t}{r:List d}(h:an R l r)(f:∀a b,R a b->p a=q b):l.findIdx? p=r.findIdx? q:=by
 induction h with
 |nil=>rfl
 |cons x _ ih=>exact rR Sb (rR Sb (rR (f _ _ x) (rR ih rfl)))
theorem an.mem_right{u d:Type}{R:u->d->Prop}{l:List u}{r:List d}(h:an R l r){b:d}(f:b∈r):∃a∈l,R a b:=by
 induction h with
 |nil=>cases f
 |cons x _ ih=>
  rcases P0.mp f with rfl|f
  ·exact(aK _ (.head _) x)
  exact am (ih f) λa t i=>(aK a (.tail _ t) i)
section
variable{E:V8}
mutual
def hV(k:V)(es:X7):Option Nat:=es.findIdx? λp=>decide (p.1=k)
theorem mC(i:aI k es=true):cF k=true/\∀p∈es,cp p.1=cp k:=by simp only[aI,QW,Qc,Qd] at i;exact i
theorem Pd(v:cF k=true)(h:cp k=2)(r:aG σ s.heap k key):∃b,key=.ref b:=by
 cases k<;>first|exact Nat.noConfusion h|exact Nat.noConfusion (Sl h)|exact VC v PC|skip
 exact AC r λa _ _ e _=>⟨a,e⟩
theorem Ld(r:an (bF w σ s.heap) es ba)(c:∀p∈es,cp p.1=2):
  ∃xs:List (V×Addr×Value),xs.map (·.1)=es.map (·.1)/\ba=xs.map (entryOfKey (B7 prog w))/\∀x∈xs,(B7 prog w).is s.heap x.1 x.2.1:=by
 induction r with
 |nil=>exact(oW ([]) rfl rfl (λa h=>nomatch h))
 | @cons p e l r' x _ ih=>
  refine nR (ih λq f=>c q (.tail _ f)) λxs C g N=>?_;obtain⟨k,v⟩:=p;obtain⟨hs,key,val⟩:=e;refine EG (x) λy d t u=>jn (Pd y (c (k,v) (.head _):cp k=2) d) λb Q=>?_;subst Q;simp only at t;refine rR t (oW ((k,b,val)::xs) (by simp [C]) (rR g rfl) (λq f=>?_));rcases P0.mp f with rfl|f
  ·exact(aG.toP (n:=4) y d)
  exact N q f
theorem O8(h:cp v=0):∃j,v=.int j:=by cases v<;>first|exact⟨_,rfl⟩|exact Nat.noConfusion h|exact Nat.noConfusion (Sl h)
theorem Pc(h:cp v=1):∃j,v=.str j:=by cases v<;>first|exact⟨_,rfl⟩|exact Nat.noConfusion h|exact Nat.noConfusion (Sl h)
theorem rO{K:Type}[DecidableEq K]{knd:KeyKind prog w K}{mk:K->V}{vl:K->Tok->Value}(inj:∀{i j},mk i=mk j->i=j)(f:∀i t,knd.is i (vl i t)=true){d:Addr}{o:Obj}{ep:Nat}{es:X7}{k:K}{t:Tok}{Q:Option Nat->Shared->Prop}(g:s.heap.get? d=some o)(L:o.data=.dict ba ep)(r:an (λp e=>∃j t,p.1=mk j/\e.key=vl j t/\e.hash=knd.hash j) es ba.toList)(h:Q (hV (mk k) es) s):wpAny (model prog w) A (dictFind d (vl k t) (knd.hash k)) Q E s:=by
 have e:ba.findIdx? (λe=>knd.is k e.key)=hV (mk k) es:=by
  rw[show ba=ba.toList.toArray from(Array.toArray_toList ..).symm,List.findIdx?_toArray];refine(r.findIdx λp e x=>dg x λj t B G _=>?_).symm;refine rR B (rR G ?_);by_cases z:j=k
  ·rw[z,f];exact Qg rfl
  exact rR (Qb λq=>z (inj q)) ((Qv.mpr λq=>z (knd.inj _ _ _ (f j t) q)).symm)
 exact wpAny_dictFind_of (f k t) g L (λq l=>am (r.mem_right (Ro.mpr l)) λp _ x=>dg x λj t _ G C=>(aK j (G▸f j t) C)) (e▸h)
theorem qO{d:Addr}{v:Array DictEntry}{es:X7}{U:Value}{Q:Option Nat->Shared->Prop}(g:s.heap.get? d=some o)(M:o.data=.dict v ep)(r:an (bF w σ s.heap) es v.toList)(nd:(es.map (·.1)).Nodup)(hf:aI k es=true)(c:aG σ s.heap k U)(hu:A.units+4<cLine)(h:Q (hV k es) s):
  wpAny (model prog w) A (dictFind d U (ga w 4 k)) Q E s:=by
 refine dQ (mC hf) λy m=>?_
 cases k with
 |int i=>obtain⟨t,rfl⟩:=c.int_inv;exact rO (knd:=intKind prog w) (mk:=V.int) (vl:=Value.int) V.int.inj (λi t=>by simp [intKind,Value.isInt]) g M (r.mono' λp e y ø x=>jn (O8 (m p y)) λj z=>jn (z▸x.2.1:aG σ s.heap (.int j) e.key).int_inv λt J=>(ng j t z J (x.2.2.1.trans (z▸rfl)))) h
 |str i=>obtain⟨t,rfl⟩:=c.str_inv;exact rO (knd:=PySem.strKind prog w) (mk:=V.str) (vl:=Value.str) V.str.inj (λi t=>by simp [PySem.strKind,Value.isStrOf]) g M (r.mono' λp e y ø x=>jn (Pc (m p y)) λj z=>jn (z▸x.2.1:aG σ s.heap (.str j) e.key).str_inv λt J=>⟨j,t,z,J,x.2.2.1.trans (z▸rfl)⟩) h
 |tup l=>
  obtain⟨b,items,n,rfl,_⟩:∃a items n,U=.ref a/\σ a=none/\IsT s.heap a items n/\iB σ s.heap l items.toList:=id c;refine nR (Ld (prog:=prog) r (λp y=>m p y)) λxs L f Y=>?_;have C:∀(j:Nat)(p:Addr×Value),xs[j]?=some (.tup l,p)->hV (.tup l) es=some j:=λj p e=>by
   have I:(es.map (·.1))[j]?=some (.tup l):=by refine sB L (rR QS (rR e ?_));rfl
   have N:j<(es.map (·.1)).length:=(Qi.mp I).1;have u:j<es.length:=by simpa using N
   have G:es[j].1=.tup l:=by have:=(Qi.mp I).2;simpa using this
   refine Th.mpr ⟨u,by simpa using G,λi hi=>?_⟩;have: ¬es[i].1=.tup l:=λq=>by
    have B:(es.map (·.1))[i]?=some (.tup l):=by rw[QS,P4 (by exact lq (aO u hi))];simp [q]
    have:=(List.getElem?_inj (by simpa using (by exact lq (aO u hi):i<es.length)) nd).mp (B.trans I.symm);exact BE (aO hi (mO this))
   simpa using this
  refine wpAny_dictFind_heap (knd:=B7 prog w) hu (k:=.tup l) (aG.toP y c) g M f Y (L▸nd) (λT=>?_) (λj p e=>?_)
  ·have:hV (.tup l) es=none:=by
    cases e:hV (.tup l) es with
    |none=>rfl
    |some j=>
     exfalso;obtain⟨N,u,_⟩:=Th.mp e;have G:(xs.map (·.1))[j]?=some (.tup l):=by refine rR L (rR QS (rR (P4 N) ?_));simpa using u
     replace G:=(QS)▸G;cases B:xs[j]? with
     |none=>replace G:=(B)▸G;cases G
     |some x=>replace G:=(B)▸G;obtain⟨x1,x2⟩:=x;simp at G;exact T j x2 (by exact rR B (rR G rfl))
   replace h:=(this)▸h;exact h
  replace h:=(C j p e)▸h;exact h
 |_=>simp [cF,dN] at y
theorem pS:∀{es:X7},hV k es=none->aJ k es=none
 |[],_=>rfl
 |(a,b)::r,h=>by
  simp only[hV,Sb,aJ] at h⊢;by_cases e:a=k
  ·simp [e] at h
  simp only[e,SY,Q6,Tk,UC] at h⊢;exact pS h
theorem k4:∀{es:X7}{i:Nat},hV k es=some i->∃v,es[i]?=some (k,v)/\aJ k es=some v
 |[],_,h=>by simp [hV] at h
 |(a,b)::r,i,h=>by
  simp only[hV,Sb,aJ] at h⊢;by_cases e:a=k
  ·subst e;simp at h;subst h;exact(aK b rfl (by simp))
  simp only[e,SY,Q6,Tk,QZ] at h⊢;obtain⟨j,I,rfl⟩:=h;exact am (k4 (es:=r) I) λv C d=>(aK v (by simpa using C) d)
theorem nA{Q:X8->Shared->Prop}(g:s.heap.get? d=some o)(L:o.data=.dict ba ep)(r:an (bF w σ s.heap) es ba.toList)(nd:(es.map (·.1)).Nodup)(j:aI k es=true)(c:aG σ s.heap k kv)(B:A.units+4<cLine)(h:aJ k es=none->∀n,Q none {s with toks:=n})(hs:∀v u,aJ k es=some v->aG σ s.heap v u->∀n,Q (some u) {s with toks:=n}):wpAny (model prog w) A (dictGet d kv) Q E s:=by
 unfold dictGet
 try with_reducible refine Qr ?_
 refine PN (nj 4 (aG.toP (mC j).1 c) B (PN (qO (s:={s with toks:=s.toks+fA 4 k}) g L r nd j c B ?_)))
 cases e:hV k es with
 |none=>exact Qa (h (pS e) _)
 |some i=>refine am (k4 e) λv f U=>PO (r.get i _ f) λy x=>?_;refine PN (wpAny_dictEntries (s:={s with toks:=s.toks+fA 4 k}) g L ?_);refine sB Rc ?_;exact rR x.1 (Qa (hs v y.val U x.2.2.2.2 _))
theorem wb(f:(h₀.get? 1).isSome=true)(R:aU w h₀ σ s)(e:(σ d).isSome=true):(d==sysModules)=false:=by
 refine PO (Q3.mp f) λo g=>?_;have:d≠1:=λh=>by subst h;replace e:=((R.old 1 o g).1)▸e;cases e
 simpa [sysModules] using this
theorem kO{Q:Bool->Shared->Prop}(g:s.heap.get? d=some {cls:=.type "dict",data:=.dict ba ep})(r:an (bF w σ s.heap) es ba.toList)(nd:(es.map (·.1)).Nodup)(i:aI k es=true)(c:aG σ s.heap k kv)(B:A.units+5<cLine)(L:(d==sysModules)=false)(h:∀n,Q (aJ k es).isSome {s with toks:=n}):wpAny (model prog w) A (contains (.ref d) kv) Q E s:=by
 have T:s.TypeIs (.ref d) "dict":=⟨_,g,rfl⟩
 unfold contains
 try with_reducible refine Qr (PN (S9 T T3.lookup ?_))
 refine PN (wpAny_callSpecialUnlessNone?_slot (name:=Str.ofString "__contains__") T T3
  (Sx T3 T entry_dict_contains ?_ (args_dict_contains _ _)))
 show wpAny _ _ (dictGet d kv>>=_) _ _ s
 refine PN (nA g rfl r nd i c (lq B) (λe n=>?_) λv u e a n=>?_)
 ·show wpAny _ _ (Builtin.Dict.pendingKey? d kv>>=_) _ _ _;have:=h n;rw[e] at this;exact PN (wpAny_pendingKey_other L (Qa (aK _ rfl (Sk this))))
 ·show wpAny _ _ (ret (.bool true)) _ _ _;have:=h n;rw[e] at this;exact Qa (aK _ rfl (Sk this))
theorem in_dict{Q:V8}(g:s.heap.get? d=some {cls:=.type "dict",data:=.dict ba ep})(r:an (bF w σ s.heap) es ba.toList)(nd:(es.map (·.1)).Nodup)(i:aI k es=true)(c:aG σ s.heap k kv)(B:A.units+5<cLine)(L:(d==sysModules)=false)(h:∀n,Q (.bool (aJ k es).isSome) {s with toks:=n}):wpAny (model prog w) A (compareOp .In kv (.ref d)) Q E s:=PN (kO g r nd i c B L λn=>Qa (h n))
theorem yl{Q:V8}(g:s.heap.get? d=some {cls:=.type "dict",data:=.dict ba ep})(r:an (bF w σ s.heap) es ba.toList)(nd:(es.map (·.1)).Nodup)(i:aI k es=true)(c:aG σ s.heap k kv)(B:A.units+5<cLine)(L:(d==sysModules)=false)(h:∀n,Q (.bool !(aJ k es).isSome) {s with toks:=n}):wpAny (model prog w) A (compareOp .NotIn kv (.ref d)) Q E s:=PN (kO g r nd i c B L λn=>Qa (h n))
theorem um{Q:V8}(g:s.heap.get? d=some {cls:=.type "dict",data:=.dict ba ep})(r:an (bF w σ s.heap) es ba.toList)(nd:(es.map (·.1)).Nodup)(i:aI k es=true)(c:aG σ s.heap k kv)(B:A.units+5<cLine)(p:aJ k es=some v)(h:∀u,aG σ s.heap v u->∀n,Q u {s with toks:=n}):wpAny (model prog w) A (getItem (.ref d) kv) Q E s:=by
 have T:s.TypeIs (.ref d) "dict":=⟨_,g,rfl⟩
 unfold getItem
 try with_reducible refine Qr (PN (Uk T (by decide) ?_))
 refine PN (Tf (name:=Str.ofString "__getitem__") T slot_dict_getitem
  (Sx slot_dict_getitem T entry_dict_getitem ?_ (args_dict_getitem _ _)))
 show wpAny _ _ (dictGet d kv>>=_) _ _ s
 refine PN (nA g rfl r nd i c (lq B) (λe n=>?_) λf u e j n=>?_)
 ·replace e:=(p)▸e;cases e
 ·replace e:=(p)▸e;cases e;exact Qa (aK u rfl (Qa (h u j n)))
theorem tM{d:Addr}(L:(d==sysModules)=false)(y B:Value):
  MeetsIn prog w (Builtin.«dict.get» ⟨[.ref d,y,B],[]⟩) (λA R s=>A.units+5<cLine/\∃(σ:Hp)(k:V)(x:Array DictEntry)(ep:Nat)(es:X7),s.heap.get? d=some {cls:=.type "dict",data:=.dict x ep}/\
   an (bF w σ s.heap) es x.toList/\(es.map (·.1)).Nodup/\aI k es=true/\aG σ s.heap k y/\
   (aJ k es=none->∀n,R (.ok (.ret B)) {s with toks:=n})/\(∀v u,aJ k es=some v->aG σ s.heap v u->∀n,R (.ok (.ret u)) {s with toks:=n})):=
 .of_wp λA R s z=>by
  obtain⟨C,σ,k,x,ep,es,g,r,nd,i,c,f,hs⟩:=z;show wpAny _ _ (dictGet d y>>=_) _ _ s;refine PN (nA g rfl r nd i c (lq C) (λe n=>?_) λj u e h n=>?_)
  ·show wpAny _ _ (Builtin.Dict.missed d y>>=_) _ _ _;exact PN (wpAny_missed_other L (Qa (aK _ rfl (f e n))))
  exact Qa (aK u rfl (hs _ u e h n))
theorem yJ{d:Addr}(L:(d==sysModules)=false)(y:Value):
  MeetsIn prog w (Builtin.«dict.get» ⟨[.ref d,y],[]⟩) (λA R s=>A.units+5<cLine/\∃(σ:Hp)(k:V)(x:Array DictEntry)(ep:Nat)(es:X7),s.heap.get? d=some {cls:=.type "dict",data:=.dict x ep}/\
   an (bF w σ s.heap) es x.toList/\(es.map (·.1)).Nodup/\aI k es=true/\aG σ s.heap k y/\
   (aJ k es=none->∀n,R (.ok (.ret .none)) {s with toks:=n})/\(∀v u,aJ k es=some v->aG σ s.heap v u->∀n,R (.ok (.ret u)) {s with toks:=n})):=tM L y .none
theorem mf:∀{es:X7},hV k es=none->gJ k v es=es++[(k,v)]
 |[],_=>rfl
 |(a,b)::r,h=>by
  simp only[hV,Sb,gJ] at h⊢;by_cases e:a=k
  ·simp [e] at h
  simp only[e,SY,Q6,Tk,UC] at h⊢;refine rR (mf h) ?_;rfl
theorem wB:∀{es:X7}{i:Nat},hV k es=some i->gJ k v es=es.set i (k,v)/\i<es.length/\(es.map (·.1))[i]?=some k
 |[],_,h=>by simp [hV] at h
 |(a,b)::r,i,h=>by
  simp only[hV,Sb,gJ] at h⊢;by_cases e:a=k
  ·subst e;simp at h;subst h;simp
  simp only[e,SY,Q6,Tk,QZ] at h⊢;obtain⟨j,I,rfl⟩:=h;exact DP (wB (v:=v) (es:=r) I) λC d N=>⟨by simp only[C];rfl,by simp [d],by simpa using N⟩
theorem tt{Q:W8}(g:s.heap.get? d=some {cls:=.type "dict",data:=.dict ba ep})(r:an (bF w σ s.heap) es ba.toList)(nd:(es.map (·.1)).Nodup)(m:aI k es=true)(c:aG σ s.heap k kv)(q:aG σ s.heap v vv)(L:A.units+4<cLine)(hz:es.length<=lim)(h:∀h' C t n,Heap.SameBut d s.heap h'->h'.get? d=some {cls:=.type "dict",data:=.dict C t}->an (bF w σ s.heap) (gJ k v es) C.toList->((gJ k v es).map (·.1)).Nodup->Q () {s with heap:=h',toks:=n}):
  wpAny (model prog w) A (dictSet d kv vv) Q E s:=by
 unfold dictSet
 try with_reducible refine Qr ?_
 refine PN (nj 4 (aG.toP (mC m).1 c) L ?_)
 unfold dictSetHashed
 try with_reducible refine Qr (PN (qO (s:={s with toks:=s.toks+fA 4 k}) g rfl r nd m c L ?_))
 cases e:hV k es with
 |none=>
  refine PN (Vy (wpAny_updateDictKeys (hz:=by refine rR (bz r) ?_;exact gf hz) (s:={s with toks:=s.toks+fA 4 k}) g rfl
   (h _ (ba.push ⟨ga w 4 k,kv,vv⟩) (ep+1) _ (R3 ..) (RF _ g rfl) ?_ ?_)))
  ·refine rR (mf e) (rR Uj ?_);exact r.append (.cons ⟨(mC m).1,c,rfl,q⟩ .nil)
  rw[mf e,PU,Q8];refine⟨nd,by simp,?_⟩;intro x N y B;simp only[QG,Tl,PG] at B;refine rR B ?_;rintro rfl;refine PO (P1.mp N) λp G=>?_;have:=Uf.mp e p G.1;simp at this;exact this G.2
 |some i=>
  have z:=wB (v:=v) e;have J:=z.1;have f:=z.2.1;have hi:i<ba.size:=by simp only[(bz r)];exact f
  refine PN (Vy (PN (wpAny_updateDict (s:={s with toks:=s.toks+fA 4 k}) g rfl (wpAny_point
   (h _ (ba.modify i λe=>{e with val:=vv}) ep _ (R3 ..) (RF _ g rfl) ?_ ?_)))))
  ·rw[J];have T:(ba.modify i λe=>{e with val:=vv}).toList=ba.toList.set i {ba[i] with val:=vv}:=by
    apply List.ext_getElem?;refineλj=>rR Rc (rR Array.getElem?_modify (rR List.getElem?_set ?_));by_cases I:i=j
    ·subst I;simp [hi]
    simp [I]
   rw[T];refine r.set ?_ i;refine PO (k4 e) λu l=>am (r.get i _ l.1) λy B o=>?_;have:y=ba[i]:=by rw[Rc,Ug hi] at B;exact(Qh B).symm
   exact(Qe (this))▸⟨o.1,o.2.1,o.2.2.1,q⟩
  refine rR J (rR List.map_set ?_);have:(es.map (·.1)).set i (k,v).1=es.map (·.1):=by
   apply List.ext_getElem?;intro j;rw[List.getElem?_set];by_cases I:i=j
   ·subst I;simp only[if_true];split
    ·exact z.2.2.symm
    rename_i M;exact VC (by simpa using f) M
   simp [I]
  exact rR this nd
theorem t7{Q:W8}(g:s.heap.get? d=some {cls:=.type "dict",data:=.dict ba ep})(r:an (bF w σ s.heap) es ba.toList)(nd:(es.map (·.1)).Nodup)(i:aI k es=true)(f:aG σ s.heap k kv)(p:aG σ s.heap v vv)(B:A.units+5<cLine)(hz:es.length<=lim)(h:∀h' C t n,Heap.SameBut d s.heap h'->h'.get? d=some {cls:=.type "dict",data:=.dict C t}->an (bF w σ s.heap) (gJ k v es) C.toList->((gJ k v es).map (·.1)).Nodup->Q () {s with heap:=h',toks:=n}):
  wpAny (model prog w) A (setItem (.ref d) kv vv) Q E s:=by
 have T:s.TypeIs (.ref d) "dict":=⟨_,g,rfl⟩
 unfold setItem
 try with_reducible refine Qr (PN (Uk T (by decide) ?_))
 refine PN (Tf (name:=Str.ofString "__setitem__") T slot_dict_setitem
  (Sx slot_dict_setitem T entry_dict_setitem ?_ (args_dict_setitem _ _ _)))
 refine PN (wpAny_notOrdered_dict T ?_)
 show wpAny _ _ (dictSet d kv vv>>=_) _ _ s
 exact PN (tt g r nd i f p (lq B) hz λh' e G n a b c d=>Qa (aK .none rfl (Qa (h h' e G n a b c d))))
end
end
section
variable{Q:V->Hp->Prop}
mutual
theorem uz(v:∀x∈l,cF x=true)(r:an (aG σ h) l vs):∃as,ReadsAll h vs (aN l) as:=by
 induction r with
 |nil=>exact⟨_,.nil⟩
 |cons x _ ih=>obtain⟨as,C⟩:=(aG.toP (n:=4) (v _ (.head _)) x).reads;obtain⟨bs,d⟩:=ih λy B=>v y (.tail _ B);exact⟨_,.cons C d⟩
theorem wY(R:aU w h₀ σ s):(∀{x:V}{d:PyData},xA σ x d->∀u,aG σ s.heap x u->∃as,Reads s.heap u d as)/\∀{x:Z7}{d:List PyData},sv σ x d->∀u,an (aG σ s.heap) x u->∃as,ReadsAll s.heap u d as:=by
 have c1:∀u,aG σ s.heap .none u->∃as,Reads s.heap u .none as:=λu j=>by exact rR j.none_inv ⟨_,.none⟩
 have f:∀{b:Bool}u,aG σ s.heap (.bool b) u->∃as,Reads s.heap u (.bool b) as:=λu j=>by exact(Qe j.bool_inv)▸⟨_,.bool _⟩
 have z:∀{i:Int}u,aG σ s.heap (.int i) u->∃as,Reads s.heap u (.int i) as:=λu j=>by exact jn j.int_inv λt y=>y▸⟨_,.int _ _⟩
 have L:∀{i:Str}u,aG σ s.heap (.str i) u->∃as,Reads s.heap u (.str i) as:=λu j=>by exact jn j.str_inv λt v=>rR v ⟨_,.str _ _⟩
 have m:∀{l:Z7}{d:List PyData}(_:sv σ l d),(∀u,an (aG σ s.heap) l u->∃as,ReadsAll s.heap u d as)->∀u,aG σ s.heap (.tup l) u->∃as,Reads s.heap u (.tuple d) as:=λc k u j=>by exact zG j.tup_inv λa items n J _ g r=>rR J ((k _ r).elim λas q=>⟨as,.tuple g rfl rfl q⟩)
 have B:∀{a:Addr}{l:Z7}(_:σ a=some (.list l)),l.all cF=true->∀u,aG σ s.heap (.ref a) u->∃as,Reads s.heap u (.list (aN l)) as:=λe C u j=>by exact rR j.ref_inv (eA (R.conc _ _ e) λitems n g r=>(uz (λx j=>Qc.mp C x j) r).elim λas q=>⟨_,.list g rfl rfl q⟩)
 have T:∀u,an (aG σ s.heap) [] u->∃as,ReadsAll s.heap u [] as:=λu j=>by cases j;exact⟨_,.nil⟩
 have G:∀{a:V}{d:PyData}{l:Z7}{r:List PyData}(_:xA σ a d)(_:sv σ l r),(∀u,aG σ s.heap a u->∃as,Reads s.heap u d as)->(∀u,an (aG σ s.heap) l u->∃as,ReadsAll s.heap u r as)->∀u,an (aG σ s.heap) (a::l) u->∃as,ReadsAll s.heap u (d::r) as:=λc c M U u j=>by
  cases j with
  |cons x r=>exact(M _ x).elim λas q=>(U _ r).elim λbs I=>⟨_,.cons q I⟩
 exact⟨λh=>xA.rec (motive_1:=λx d c=>∀u,aG σ s.heap x u->∃as,Reads s.heap u d as) (motive_2:=λx d c=>∀u,an (aG σ s.heap) x u->∃as,ReadsAll s.heap u d as) c1 f z L m B T G h,
  λh=>sv.rec (motive_1:=λx d c=>∀u,aG σ s.heap x u->∃as,Reads s.heap u d as) (motive_2:=λx d c=>∀u,an (aG σ s.heap) x u->∃as,ReadsAll s.heap u d as) c1 f z L m B T G h⟩
theorem fO(R:aU w h₀ σ s)(r:aG σ s.heap x u)(h:xA σ x d):∃as,Reads s.heap u d as:=(wY R).1 h u r
set_option tactic.hygienic true in
theorem zk(v:∀x∈l,isInt x=true)(r:an (aG σ s.heap) l items)(f:Value->Bool)(k:∀j t,f (.int j t)=(j==i)):items.any f=decide (V.int i∈l):=by
 induction r with
 |nil=>simp
 | @cons x u l' r' hx _ ih=>
  have C:=v x (.head _)
  cases x<;>simp only[isInt,Q6] at C
  rename_i j
  refine PO (hx.int_inv) λt J=>rR J ?_
  simp only[R6,k,ih λy B=>v y (.tail _ B)]
  by_cases h:j=i
  ·refine rR h ?_;simp
  ·have: ¬i=j:=λe=>h e.symm
   simp [h,this]
noncomputable def H7(i:Int):Value->Bool
 |.int j _=>j==i
 |_=>false
theorem mL(u:∀x∈l,isInt x=true)(r:an (aG σ s.heap) l items):∀y∈items,SeqAt.EqAt A s y (.int i t) (H7 i y):=λy B=>by refine am (r.mem_right B) λx j h=>?_;have C:=u x j;cases x<;>simp only[isInt,Q6] at C;exact jn (h.int_inv) λG Y=>rR Y (SeqAt.EqAt.int_int _ _ _ _)
theorem AE(h:isInt x=true):∃i,x=.int i:=by cases x<;>simp only[isInt,Q6] at h;exact⟨_,rfl⟩
set_option tactic.hygienic true in
theorem zn{x y:V}{u v:Value}{b:Bool}{K:V8}(f:(h₀.get? 1).isSome=true)(G:A.units+5<cLine)(R:aU w h₀ σ s)(k:aG σ s.heap x u)(B:aG σ s.heap y v)(h:In σ x y b):
  ((∀n,K (.bool b) {s with toks:=n})->wpAny (model prog w) A (compareOp .In u v) K bE s)/\((∀n,K (.bool !b) {s with toks:=n})->wpAny (model prog w) A (compareOp .NotIn u v) K bE s):=by
 induction h with
 |tup z=>
  rename_i i l
  obtain⟨t,rfl⟩:=k.int_inv
  refine zG (B.tup_inv) λa items n Y _ g r=>rR Y ?_
  rw[Qc] at z
  refine sB (zk z r (H7 i) (i:=i) λj t=>rfl) (rR Array.any_toList ?_)
  exact⟨λq=>SeqAt.in_tupleAt (H7 _) ⟨_,g,rfl,_,rfl⟩ (λy B=>mL z r y (Ro.mpr B)) (q s.toks),λq=>SeqAt.notIn_tupleAt (H7 _) ⟨_,g,rfl,_,rfl⟩ (λy B=>mL z r y (Ro.mpr B)) (q s.toks)⟩
 |list el z=>
  rename_i i a l
  refine(B.ref_inv)▸?_
  obtain⟨t,rfl⟩:=k.int_inv
  refine eA (R.conc _ _ el) λitems n g r=>?_
  rw[Qc] at z
  refine sB (zk z r (H7 i) (i:=i) λj t=>rfl) (rR Array.any_toList ?_)
  exact⟨λq=>SeqAt.in_listAt (H7 _) (Sr g) (λy B=>mL z r y (Ro.mpr B)) (q s.toks),λq=>SeqAt.notIn_listAt (H7 _) (Sr g) (λy B=>mL z r y (Ro.mpr B)) (q s.toks)⟩
 |dict el m=>
  refine(Qe (B.ref_inv))▸(dg (R.conc _ _ el) λC n g r nd=>?_)
  have L:=wb f R (by refine rR el ?_;rfl)
  exact⟨λq=>in_dict g r nd m k G L q,λq=>yl g r nd m k G L q⟩
theorem is_none(h:aG σ s.heap x u):(u==.none)=decide (x=V.none):=by
 cases x
 ·subst h;simp
 ·subst h;rfl
 ·obtain⟨t,rfl⟩:=h;rfl
 ·obtain⟨t,rfl⟩:=h;rfl
 ·refine AC (h) λ_ _ _ G _=>rR G ?_;rfl
 ·obtain⟨rfl,_⟩:=h;rfl
 ·refine Kx (h) λ_ _ _ _ g _=>rR g ?_;rfl
 subst h;rfl
theorem mB(h:aG σ s.heap x u):plainIs u .none=true:=by
 cases x
 ·subst h;rfl
 ·subst h;rfl
 ·obtain⟨t,rfl⟩:=h;rfl
 ·obtain⟨t,rfl⟩:=h;rfl
 ·refine AC (h) λ_ _ _ v _=>rR v ?_;rfl
 ·obtain⟨rfl,_⟩:=h;rfl
 ·refine Kx (h) λ_ _ _ _ y _=>rR y ?_;rfl
 subst h;rfl
theorem xR{K:V8}(f:(h₀.get? 1).isSome=true)(C:A.units+64<cLine)(R:aU w h₀ σ s)(i:aG σ s.heap x u)(B:aG σ s.heap y v)(h:qa σ op x y b)(q:∀n,K (.bool b) {s with toks:=n}):wpAny (model prog w) A (compareOp op u v) K bE s:=by
 induction h with
 |lt=>refine PO i.int_inv λt z=>?_;subst z;refine PO B.int_inv λJ z=>?_;subst z;exact P.lt_int (q s.toks)
 |le=>refine PO i.int_inv λt g=>?_;subst g;refine PO B.int_inv λJ g=>?_;subst g;exact P.le_int (q s.toks)
 |gt=>refine PO i.int_inv λt d=>?_;subst d;refine PO B.int_inv λJ d=>?_;subst d;exact P.gt_int (q s.toks)
 |ge=>refine PO i.int_inv λt o=>?_;subst o;refine PO B.int_inv λJ o=>?_;subst o;exact P.ge_int (q s.toks)
 |is=>cases B.none_inv;exact wpAny_is_plain (mB i) (rR (is_none i) (q s.toks))
 |isNot=>cases B.none_inv;exact wpAny_isNot_plain (mB i) (by refine rR (is_none i) (sB Vl ?_);exact q s.toks)
 |inn h=>exact(zn f (PJ (P8 dD _) C) R i B h).1 q
 |notIn h=>exact(zn f (PJ (P8 dD _) C) R i B h).2 q
 |eq G I hs=>have hs:=vB hs;exact PO (fO R i G) λas N=>PO (fO R B I) λbs j=>SeqAt.compareEq_shaped N j hs.1 hs.2 C (q s.toks)
 |ne G I hs=>have hs:=vB hs;exact PO (fO R i G) λas N=>PO (fO R B I) λbs j=>SeqAt.compareNe_shaped N j hs.1 hs.2 C (q s.toks)
theorem qW{t:Type}{l:List t}{i:Int}{x:t}(h:Eu l i=some x): -(2^63)<=i/\i<2^63/\((0<=i/\l[i.toNat]?=some x)\/(i<0/\0<=(l.length:Int)+i/\l[((l.length:Int)+i).toNat]?=some x)):=by
 unfold Eu at h;split at h
 ·cases h
 refine⟨by omega,by omega,?_⟩;split at h
 ·split at h
  ·cases h
  exact .inr ⟨by omega,by omega,h⟩
 exact .inl ⟨by omega,h⟩
theorem seqIndex_of{t:Type}{l:List t}{x:t}(h:Eu l i=some x):∃k,seqIndex? i l.length=some k/\l[k]?=some x:=by
 have T:=qW h;obtain h|h:=T.2.2
 ·have r:=(Qi.mp h.2).1;refine⟨i.toNat,?_,h.2⟩;unfold seqIndex?;simp only[show¬i<0 by lia,Tk];exact rR (PW (by simp;omega)) rfl
 have r:=(Qi.mp h.2.2).1;refine⟨((l.length:Int)+i).toNat,?_,h.2.2⟩;unfold seqIndex?;simp only[h.1,if_true];rw[PW (by lia),Int.add_comm]
set_option tactic.hygienic true in
theorem qd{x k y:V}{K:V8}(hu:A.units+64<cLine)(R:aU w h₀ σ s)(p:aG σ s.heap x u)(f:aG σ s.heap k v)(h:u7 σ x k y)(q:∀r,aG σ s.heap y r->∀n,K r {s with toks:=n}):
  (∃T id,s.TypeIs u T/\typeLookup (.type T) "__getitem__" =pure (some (.builtin id)))/\wpAny (model prog w) A (getItem u v) K bE s:=by
 induction h with
 |tup h=>
  refine k6 p.tup_inv λa items n d=>EG d λo _ g r=>rR o (PO f.int_inv λt m=>(Qe m)▸(PO (seqIndex_of h) λj C=>am (aG.list_get r C.2) λz hz hr=>?_))
  have G:=qW h;exact⟨(rS _ _ ⟨_,g,rfl⟩ slot_tuple_getitem.lookup),P.getItem_tuple g G.1 G.2.1 (by rw[bz r];exact C.1) hz (q z hr s.toks)⟩
 |char h0 h1 hc=>
  rename_i x' i c
  refine PO p.str_inv λt L=>rR L (PO f.int_inv λt' U=>U▸⟨(rS _ _ rfl F.slot_str_getitem.lookup),P.getItem_str (by simp;omega) (c:=c) ?_ (q _ gQ _)⟩)
  have hl:=(Array.getElem?_eq_some_iff.mp hc).1
  have:seqIndex? i x'.length=some i.toNat:=by
   unfold seqIndex?
   simp only[show¬i<0 by lia,Tk]
   exact rR (PW (by simp;exact⟨by omega,by show i<(x'.cps.size:Int);lia⟩)) rfl
  rw[this]
  exact hc
 |list el h=>
  refine rR p.ref_inv (eA (R.conc _ _ el) λitems n g r=>PO f.int_inv λt Y=>?_);subst Y
  have N:=qW h;have I:=N.2.2
  refine⟨(rS _ _ ⟨_,g,rfl⟩ slot_list_getitem.lookup),?_⟩
  refine RD I (λI=>?_) λI=>?_
  ·exact PO (aG.list_get r I.2) λz e=>wpAny_getItem_list (Sr g) I.1 N.2.1 e.1 (q z e.2 s.toks)
  ·exact PO (aG.list_get r I.2.2) λz l=>wpAny_getItem_list_neg (Sr g) I.1 (by rw[bz r];omega) N.1 (by rw[bz r,Int.add_comm];exact l.1) (q z l.2 s.toks)
 |dict el hf h=>
  exact rR p.ref_inv (dg (R.conc _ _ el) λb n B J M=>⟨(rS _ _ ⟨_,B,rfl⟩ slot_dict_getitem.lookup),um B J M hf f (PJ (P8 dD _) hu) h q⟩)
theorem iz(i:aG σ s.heap x u)(h:yt x=some o):IsPart u o:=by cases x<;>first|(cases h;exact rR i.none_inv .none)|(cases h;exact PO (i.int_inv) λt j=>rR j (.int _ _))|exact nomatch h
theorem B1(R:aU w h₀ σ s)(u:s.heap.IsList a items)(r:an (aG σ s.heap) l items.toList)(hz:l.length<=lim)(hs:s.heap.IsSliceOf sl vl vu vs)(f:aG σ s.heap x vl)(e:aG σ s.heap y vu)(ps:aG σ s.heap z vs)(h:Gp l x y z ys)(q:alloc (.list ys) σ Q):
  wpAny (model prog w) A (getItem (.ref a) (.ref sl)) (aQ w h₀ σ s Q) bE s:=by
 have t:items.size<=sizeLine:=by exact rR (bz r) (gf hz)
 induction h with
 |cut i B=>refine Un u hs (iz f i) (iz e B) (iz ps (o:=none) rfl) nofun (aQ.list (n:=s.toks) R ?_ q) t;rw[slicePick_plain,bz r];exact(r.drop _).take _
 |rev=>refine Un u hs (iz f (o:=none) rfl) (iz e (o:=none) rfl) (iz ps (o:=some (-1)) rfl) dD (aQ.list (n:=s.toks) R ?_ q) t;rw[krv_pick];exact r.reverse
end
end
noncomputable def AH:Bi->Value
 |.len=>.builtin "len" |.range=>.type "range" |.sorted=>.builtin "sorted" |.all=>.builtin "all" |.str=>.type "str" |.tuple=>.type "tuple"
section
variable{Q:V->Hp->Prop}
mutual
theorem aQ.grown(R:aU w h₀ σ s)(e:σ a=some (.list l))(g:s.heap.get? a=some (listOf items n))(f:Array Value->Array Value)(r:an (aG σ s.heap) m (f items).toList)(q:Q .none (upd σ a (.list m))):aQ w h₀ σ s Q .none {s with heap:=s.heap.update a (Obj.mapSeq f),toks:=k}:=by
 have:=R.write (s':={s with heap:=s.heap.update a (Obj.mapSeq f),toks:=k}) (o':=.list m) e rfl (R3 ..) (λG=>
  ⟨f items,_,RF _ g (T4 rfl),r.mono λb b x=>x.grow G aP.none⟩) rfl rfl
 exact⟨.none,_,this.1,this.2,fg,q⟩
theorem Br{a:Addr}{l:Z7}{x:V}{u:Value}(R:aU w h₀ σ s)(e:σ a=some (.list l))(hz:l.length<=lim)(h:aG σ s.heap x u)(q:Q .none (upd σ a (.list (l++[x])))):
  wpAny (model prog w) A (call (.builtin "list.append") [.ref a,u]) (aQ w h₀ σ s Q) bE s:=by
 refine eA (R.conc _ _ e) λitems n g c=>Vz T5 ⟨_,g,rfl⟩ Vc (UT _ _) (list_append a items n u (rR (bz c) (gf hz))) ⟨g,?_⟩
 exact aQ.grown (k:=s.toks) R e g (λxs=>xs.push u) (by simpa using c.append (.cons h .nil)) q
theorem rL(h:n<=1000000):Builtin.List.listTooLong n=false:=Qb (by have:sizeLine=16777216:=dD;exactλz=>BE (aO h (aO (mO this) z)))
theorem Bs(R:aU w h₀ σ s)(e:σ a=some (.list l))(d:σ b=some (.list m))(hz:l.length+m.length<=lim)(q:Q .none (upd σ a (.list (l++m)))):
  wpAny (model prog w) A (call (.builtin "list.extend") [.ref a,.ref b]) (aQ w h₀ σ s Q) bE s:=by
 refine eA (R.conc _ _ e) λitems n g r=>eA (R.conc _ _ d) λj u c o=>?_
 have t:lim=1000000:=rfl
 refine Vz Vm ⟨_,g,rfl⟩ F.entry_list_extend (F.args_list_extend_2 _ _) (AutoSeq1.list_extend_list_list_0 a items n b j u ?_ ((Qe ((bz r)))▸(gf (ID (PM ..) hz))) ((Qe ((bz r)))▸(rR (bz o) (QI (gf hz))))) ⟨g,c,?_⟩
 ·refine rR (bz r) (rR (bz o) ?_);have:Builtin.List.listTooLong (l.length+m.length)=false:=by exact rL (lq (aO hz (fW t)))
  refine rR this ?_;simp
 ·exact aQ.grown (k:=s.toks) R e g (λxs=>xs++j) (by simpa using r.append o) q
theorem Cz{a:Addr}{es:X7}{k d:V}{o f:Value}{x:Array DictEntry}{n:Nat}(R:aU w h₀ σ s)(L:(a==sysModules)=false)(B:A.units+5<cLine)(g:s.heap.get? a=some {cls:=.type "dict",data:=.dict x n})(r:an (bF w σ s.heap) es x.toList)(nd:(es.map (·.1)).Nodup)(i:aI k es=true)(c:aG σ s.heap k o)(l:aG σ s.heap d f)(q:Q ((aJ k es).getD d) σ):
  wpAny (model prog w) A (call (.builtin "dict.get") [.ref a,o,f]) (aQ w h₀ σ s Q) bE s:=by
 refine call_meetsIn TN ⟨_,g,rfl⟩ F.entry_dict_get (F.args_dict_get_3 _ _ _) (tM L o f) ⟨B,σ,k,x,n,es,g,r,nd,i,c,λe m=>?_,λv u e h m=>?_⟩
 ·replace q:=(e)▸q;exact aQ.val R l q
 ·replace q:=(e)▸q;exact aQ.val R h q
theorem Gw{a:Addr}{es:X7}{k:V}{l:Value}{x:Array DictEntry}{n:Nat}(R:aU w h₀ σ s)(L:(a==sysModules)=false)(B:A.units+5<cLine)(g:s.heap.get? a=some {cls:=.type "dict",data:=.dict x n})(r:an (bF w σ s.heap) es x.toList)(nd:(es.map (·.1)).Nodup)(i:aI k es=true)(c:aG σ s.heap k l)(q:Q ((aJ k es).getD .none) σ):
  wpAny (model prog w) A (call (.builtin "dict.get") [.ref a,l]) (aQ w h₀ σ s Q) bE s:=by
 refine call_meetsIn TN ⟨_,g,rfl⟩ F.entry_dict_get (F.args_dict_get_2 _ _) (yJ L l) ⟨B,σ,k,x,n,es,g,r,nd,i,c,λe m=>?_,λv u e h m=>?_⟩
 ·replace q:=(e)▸q;exact aQ.val R fg q
 ·replace q:=(e)▸q;exact aQ.val R h q
theorem xy(r:an (aG σ s.heap) (ss.map V.str) vs):StrsAre vs ss:=by
 induction ss generalizing vs with
 |nil=>cases r;exact .nil
 |cons x l ih=>
  cases r with
  |cons hx r=>exact PO (hx.str_inv) λt y=>rR y (.cons _ _ (ih r))
theorem Gf{v:Str}{c:Value}{a:Addr}{b:Y9}(R:aU w h₀ σ s)(hs:aG σ s.heap (.str v) c)(e:σ a=some (.list (b.map V.str)))(hz:(b.map (·.length)).sum+b.length*v.length<=16777216)(q:Q (.str (gW v b)) σ):
  wpAny (model prog w) A (call (.builtin "str.join") [c,.ref a]) (aQ w h₀ σ s Q) bE s:=PO (hs.str_inv) λt r=>rR r (eA (R.conc _ _ e) λitems n i p=>join_list (Sr i) (xy p) hz λC k=>aQ.val R gQ q)
theorem te{bs:List Bool}(r:an (aG σ s.heap) (bs.map V.bool) vs):vs=bs.map .bool:=by
 induction bs generalizing vs with
 |nil=>cases r;rfl
 |cons x l ih=>
  cases r with
  |cons hx r=>exact rR hx.bool_inv (PR _ (ih r))
theorem EQ(d:∀p∈es,isInt p.1=true)(r:an (bF w σ s.heap) es ba):
  ∃kvs:List (Int×Value),kvs.length=es.length/\es.map (·.1)=kvs.map (λp=>V.int p.1)/\Pairs (intKind prog w) ba kvs/\∀e∈ba,∃k,(intKind prog w).is k e.key=true/\e.hash=(intKind prog w).hash k:=by
 induction r with
 |nil=>exact(JG ([]) rfl rfl .nil (λa h=>nomatch h))
 | @cons p e l r' x _ ih=>
  refine EY (ih λq f=>d q (.tail _ f)) λkvs c n G y=>?_;obtain⟨k,v⟩:=p;refine PO (AE (d (k,v) (.head _))) λi u=>?_;subst u;refine PO (x.2.1.int_inv) λt ht=>?_;have M:(intKind prog w).is i e.key=true:=by refine rR ht ?_;simp [intKind,Value.isInt]
  refine(JG ((i,e.val)::kvs) (by simp [c]) (by simp [n]) (.cons M rfl G) (λb z=>?_));rcases P0.mp z with rfl|z
  ·exact(aK i M x.2.2.1)
  exact y b z
theorem mM{t d:Type}{f:t->d}:∀{l:List t},(l.map f).Nodup->l.Nodup:=by
 intro n;induction n with
 |nil=>intro _;exact SR
 |cons a l ih=>intro h;rw[QG,QK] at h;exact QK.mpr ⟨λm=>h.1 (P1.mpr (aK a m rfl)),ih h.2⟩
theorem q9(h:s.heap.get? a=some {cls:=.type "dict",data:=.dict ba n})(r:an (bF w σ s.heap) es ba.toList)(nd:(es.map (·.1)).Nodup)(c:∀p∈es,isInt p.1=true):∃kvs:List (Int×Value),kvs.length=es.length/\es.map (·.1)=kvs.map (λp=>V.int p.1)/\s.heap.DictAt (intKind prog w) a kvs n:=by
 refine EY (EQ (prog:=prog) c r) λkvs l j T g=>⟨kvs,l,j,_,ba,h,⟨rfl,rfl,rfl⟩,rfl,λe t=>g e (Ro.mpr t),T,?_⟩
 simp only[j] at nd
 exact mM (f:=V.int) (rR QA nd)
theorem Fc(c:∀p∈es,isStr p.1=true)(r:an (bF w σ s.heap) es ba):
  ∃kvs:List (Str×Value),kvs.length=es.length/\es.map (·.1)=kvs.map (λp=>V.str p.1)/\Pairs (PySem.strKind prog w) ba kvs/\∀e∈ba,∃k,(PySem.strKind prog w).is k e.key=true/\e.hash=(PySem.strKind prog w).hash k:=by
 induction r with
 |nil=>exact(JG ([]) rfl rfl .nil (λf h=>nomatch h))
 | @cons p e l r' x _ ih=>
  refine EY (ih λq d=>c q (.tail _ d)) λkvs L u a z=>?_;obtain⟨k,v⟩:=p;obtain⟨i,rfl⟩:∃i,k=.str i:=by have:=c (k,v) (.head _);cases k<;>simp only[isStr,Q6] at this;exact⟨_,rfl⟩
  refine PO (x.2.1.str_inv) λt ht=>?_;have M:(PySem.strKind prog w).is i e.key=true:=by refine rR ht ?_;simp [PySem.strKind,Value.isStrOf]
  refine(JG ((i,e.val)::kvs) (by simp [L]) (by simp [u]) (.cons M rfl a) (λb y=>?_));rcases P0.mp y with rfl|y
  ·exact(aK i M x.2.2.1)
  exact z b y
theorem yF(g:s.heap.get? a=some {cls:=.type "dict",data:=.dict ba n})(r:an (bF w σ s.heap) es ba.toList)(nd:(es.map (·.1)).Nodup)(c:∀p∈es,isStr p.1=true):∃kvs:List (Str×Value),kvs.length=es.length/\es.map (·.1)=kvs.map (λp=>V.str p.1)/\s.heap.DictAt (PySem.strKind prog w) a kvs n:=by
 refine EY (Fc (prog:=prog) c r) λkvs h q v o=>⟨kvs,h,q,_,ba,g,⟨rfl,rfl,rfl⟩,rfl,λe t=>o e (Ro.mpr t),v,?_⟩
 simp only[q] at nd
 exact mM (f:=V.str) (rR QA nd)
noncomputable def GM:Bi->Bool|.sorted=>false|_=>true
theorem E4{bs:List Bool}:(List.range bs.length).all (λi=>(bs[i]?).getD true)=bs.all id:=by
 rw[Bool.eq_iff_iff,Qc,Qc];refine⟨λh x j=>?_,λh i hi=>?_⟩
 ·obtain⟨i,hi,rfl⟩:=UU.mp j;have z:=h i (Sw.mpr hi);rw[P4 hi] at z;exact z
 refine rR (P4 (Sw.mp hi)) ?_;exact h _ (Rq _)
def CV(prog:Program)(w:World)(h₀:Heap)(A:Around)(σ:Hp)(s:Shared)(Q:KV)(b:Bi)(us:X9):Prop:=wpAny (model prog w) A (call (AH b) us) (aQ w h₀ σ s Q) bE s
theorem kZ{b:Bi}{us:X9}(I:(h₀.get? 1).isSome=true)(L:A.handled=none)(R:aU w h₀ σ s)(j:an (aG σ s.heap) xs us)(h:zq σ Q b xs)(C:GM b=true):
  wpAny (model prog w) A (call (AH b) us) (aQ w h₀ σ s Q) bE s:=by
 have T:∀{n:Nat},n<=lim->(n:Int)<2^63:=λh=>Vn (SE.mpr h) dD
 induction h with
 |sortI=>exact VC C PC
 |sortS=>exact VC C PC
 |sortP=>exact VC C PC
 |lenT h q=>refine j.one (P:=CV prog w h₀ A σ s Q .len) λu l=>zG (l.tup_inv) λa items n J _ g r=>?_;subst J;have z:=bz r;refine P.len_tuple g (by rw[z];exact VA.mpr (T h)) ?_;rw[z];exact aQ.val R bD q
 |lenL e h q=>refine j.one (P:=CV prog w h₀ A σ s Q .len) λu l=>?_;unfold CV;cases l.ref_inv;refine eA (R.conc _ _ e) λitems n g r=>?_;have z:=bz r;refine Calls.call_len_list (Sr g) (by rw[z];exact T h) ?_;rw[z];exact aQ.val R bD q
 |lenD e h k q=>refine j.one (P:=CV prog w h₀ A σ s Q .len) λu l=>?_;rw[l.ref_inv];refine dg (R.conc _ _ e) λG n g r nd=>nR (q9 (prog:=prog) g r nd λp M=>Qc.mp k p M) λkvs B e2 D=>call_len_dict (knd:=intKind prog w) (wb I R (by rw[e];rfl)) D.dictOf (by rw[B];exact T h) ?_;rw[B];exact aQ.val R bD q
 |range h q=>refine j.one (P:=CV prog w h₀ A σ s Q .range) λu l=>?_;obtain⟨t,rfl⟩:=l.int_inv;refine call_range_1 ?_;have:=R.more (s':={s with heap:=s.heap.push {cls:=.type "range",data:=.fields #[.int 0 s.toks,.int n t,.int 1 (s.toks+1)]},toks:=s.toks+1+1}) (λb o e=>Ql _ e) rfl rfl;refine⟨.rng n,σ,this.1,this.2,?_,q⟩;exact(OL _ _ _ _ rfl (R.fresh (bH _)) (IsRange.new ..))
 |all e q=>
  refine j.one (P:=CV prog w h₀ A σ s Q .all) λu l=>?_;unfold CV;refine rR l.ref_inv (eA (R.conc _ _ e) λitems n g r=>call_all_walk (wpAny_pyIter_list (Sr g) ?_));refine(OQ _ _ _ _ _ _ (λi=>(bs[i]?).getD true) rfl (Walks.list (A:=A.in1) L s.heap.objs.size a (Q9 (RM g):a≠s.heap.objs.size) items) ⟨⟨_,QV _ rfl,rfl,rfl⟩,(Sr g).push _⟩ ?_ (λh' Y c=>?_))
  ·intro i v s' Q' E' y f;replace y:=(Qe (Rc))▸y;replace y:=((te r))▸y;replace y:=(QS)▸y;cases d:bs[i]? with
   |none=>replace y:=(d)▸y;cases y
   |some b=>simp only[d,Option.map_some,Option.some.injEq,Option.getD_some] at y f;subst y;exact Sk f
  have z:items.size=bs.length:=by rw[<-S5,(te r),PL]
  rw[z,E4];have U:∀b o,s.heap.get? b=some o->h'.get? b=some o:=λb o e=>c b o (by simp;exact Q9 (RM e)) (Ql _ e);have:=R.more (s':={s with heap:=h',toks:=Y}) U rfl rfl;exact⟨.bool _,σ,this.1,this.2,jL,q⟩
 |str h q=>refine j.one (P:=CV prog w h₀ A σ s Q .str) λu l=>?_;obtain⟨t,rfl⟩:=l.int_inv;exact str_of_int_fit (N:=200000) (by split<;>lia) dD λm=>aQ.val R gQ q
 |tuple e h q=>refine j.one (P:=CV prog w h₀ A σ s Q .tuple) λu l=>?_;unfold CV;cases l.ref_inv;refine eA (R.conc _ _ e) λitems n g r=>call_tuple_list (Sr g) (λh' c=>?_) (by rw[bz r];exact gf h);have:=R.more (s':={s with heap:=h'}) c rfl rfl;exact(aQ.tup (n:=s.toks) this.1 (r.mono λm m x=>x.grow this.2 aP.none) q).back this.2
theorem DW(r:an (aG σ s.heap) (ns.map V.int) vs):IntsAre vs ns:=by
 induction ns generalizing vs with
 |nil=>cases r;exact .nil
 |cons n ns ih=>
  cases r with
  |cons x r=>exact PO (x.int_inv) λt z=>rR z (.cons _ _ (ih r))
theorem zF(r:IntsAre vs ns):an (aG σ s.heap) (ns.map V.int) vs:=by
 induction r with
 |nil=>exact .nil
 |cons n t _ ih=>exact .cons bD ih
theorem Gn(r:StrsAre vs ns):an (aG σ s.heap) (ns.map V.str) vs:=by
 induction r with
 |nil=>exact .nil
 |cons n t _ ih=>exact .cons gQ ih
def ta(prog:Program)(w:World)(σ:Hp)(h:Heap)(Q:V->Hp->Prop)(vs:X9):Prop:=
 ∀{A:Around}{a:Addr}{s:Shared}{P:Fin->Shared->Prop}{E:V8},(∀b o,h.get? b=some o->s.heap.get? b=some o)->s.heap.get? a=some (seqObj "list" vs.toArray 0)->
  (∀(out:Array Value)(g:Z7),an (aG σ h) g out.toList->alloc (.list g) σ Q->P (.done (.ret .none)) {s with heap:=sortedHeap s.heap a vs out})->wpAny (model prog w) A (Builtin.«list.sort» ⟨[.ref a],[]⟩) P E s
theorem yU(r:an (aG σ s.heap) (ns.map V.int) vs)(t:ns.length<64)(q:∀g:Z9,g.Perm ns->g.Pairwise (· <= ·)->alloc (.list (g.map V.int)) σ Q):ta prog w σ s.heap Q vs:=λk i h=>
 list_sort_tree (n:=0) (vs:=vs) i (DW r) (by simp only[<-r.length,PL];exact t) λout L x v B=>h out _ (zF x) (q L v B)
theorem yL(r:an (aG σ s.heap) (ns.map V.str) vs)(v:ns.length<64)(q:∀g:Y9,g.Perm ns->sortedS g=true->alloc (.list (g.map V.str)) σ Q):ta prog w σ s.heap Q vs:=λk i h=>by have N:=xy r;exact list_sort_treeK strKind_oneLt (n:=0) (vs:=vs) i N.keysOf (λm u rest e=>keyKind_strs (sB e N)) (by rw[<-r.length,PL];exact v) λY x M=>nR (sorted_out_str N x M) λa t l d=>h _ _ (Gn t) (q a l d)
theorem tb(R:aU w h₀ σ s)(t:vs.length<64)(d:ta prog w σ s.heap Q vs):
  wpAny (model prog w) A (newList vs>>=λD=>holding [D] (call (.builtin "list.sort") [D] [])>>=λc=>ret D) (λU s'=>∃v,U=.done (.ret v)/\aQ w h₀ σ s Q v s') bE s:=by
 refine PN (Uo ?_ (gf (ID (P2 t) dD)))
 have g:(s.heap.push (seqObj "list" vs.toArray 0)).get? s.heap.objs.size=some (seqObj "list" vs.toArray 0):=QV _ rfl
 refine PN (Qr (Sx slot_list_sort ⟨_,g,rfl⟩ entry_list_sort (d (λb o e=>Ql _ e) g λout j L q=>(aK .none rfl (Qa (aK _ rfl ?_)))) (args_list_sort _)))
 refine PO (sortedHeap_at (out:=out) g) λe r=>?_
 have J:∀x o,x≠s.heap.objs.size->s.heap.get? x=some o->(sortedHeap (s.heap.push (seqObj "list" vs.toArray 0)) s.heap.objs.size vs out).get? x=some o:=λx o i I=>by exact rR (sortedHeap_old i (by rw[UV];exact RX (RM I))) (Ql _ I)
 have f:∀x o,σ x=some o->x≠s.heap.objs.size:=λx o e h=>by subst h;replace e:=(R.fresh (bH _))▸e;cases e
 have st:=R.step (s':={s with heap:=sortedHeap (s.heap.push (seqObj "list" vs.toArray 0)) s.heap.objs.size vs out}) (a:=s.heap.objs.size) (b:=s.heap.objs.size) (o:=.list j) J (.inr (bH _)) (.inr (bH _))
  (λx o c e=>.inl (f x o e)) (λx C dx u c e=>by have:=(R.conc x _ e).1;exact⟨f dx _ this,f dx _ this⟩)
  (λx y c e=>.inl (i5 (R.conc x _ e) λC u p=>f y _ p)) (λG=>⟨out,e,r,L.mono λc c x=>x.grow G aP.none⟩) rfl rfl
 exact⟨.ref s.heap.objs.size,_,st.1,st.2,⟨rfl,by refine rR bO ?_;rfl⟩,q _ (R.fresh (bH _))⟩
theorem m6{v:Value}(h:wpAny (model prog w) A.in1 (collect v) (λvs s'=>wpAny (model prog w) A.in1 (newList vs>>=λD=>holding [D] (call (.builtin "list.sort") [D] [])>>=λa=>ret D) (λU s'=>∃v,U=.done (.ret v)/\aQ w h₀ σ s Q v s') bE s') bE s):
  wpAny (model prog w) A (call (.builtin "sorted") [v]) (aQ w h₀ σ s Q) bE s:=Calls.call_function_entry kind_sorted plain_sorted entry_sorted (args_sorted1 _) (PN (m:=checkCount "sorted" 1 1 _) (Qa (PN h)))
theorem vX(R:aU w h₀ σ s)(e:σ a=some (.list l))(t:l.length<64)(c:∀{s':Shared}{vs:X9},aU w h₀ σ s'->an (aG σ s'.heap) l vs->ta prog w σ s'.heap Q vs):
  wpAny (model prog w) A (call (.builtin "sorted") [.ref a]) (aQ w h₀ σ s Q) bE s:=by
 refine eA (R.conc _ _ e) λitems n y r=>?_
 have z:items.toList.length=l.length:=r.length.symm
 refine m6 (collect_list (l:=a) (vs:=items.toList) (Sr y) ?_ (rR z (gf (ID (P2 t) dD))))
 have C:∀b o,s.heap.get? b=some o->((s.heap.push (seqObj "list" #[] 0)).update s.heap.objs.size (Obj.mapSeq (· ++items.toList.toArray))).get? b=some o:=λb o e=>by refine rR (Vd _ _ _ _ (Q9 (RM e))) ?_;exact Ql _ e
 have M:=R.more (s':={s with heap:=(s.heap.push (seqObj "list" #[] 0)).update s.heap.objs.size (Obj.mapSeq (· ++items.toList.toArray))}) C rfl rfl
 exact Qj (tb M.1 (rR z t) (c M.1 (r.mono λd d x=>x.grow M.2 aP.none))) (λU s' p=>PO (p) λv q=>(aK v q.1 (q.2.back M.2))) λd d x=>x
theorem FR{l:Type}[DecidableEq l]{knd:PySem.KeyKind prog w l}{f:l->V}(m:∀k v,knd.is k v=true->∀h:Heap,aG σ h (f k) v):∀{kvs:List (l×Value)}{vs:X9},vs.length=kvs.length->(∀(j:Nat)(v:Value),vs[j]?=some v->∃(k:l)(x:Value),kvs[j]?=some (k,x)/\knd.is k v=true)->an (aG σ h) (kvs.map λp=>f p.1) vs:=by
 intro kvs;induction kvs with
 |nil=>intro vs e g;cases vs with
  |nil=>exact .nil
  |cons=>exact nomatch e
 |cons p kvs ih=>intro vs e g;cases vs with
  |nil=>exact nomatch e
  |cons v vs=>refine eA (g 0 v rfl) λk x T i=>?_;cases T;exact .cons (m _ _ i h) (ih (Sl e) λj v e=>g (j+1) v e)
theorem oO{l:Type}[DecidableEq l]{knd:PySem.KeyKind prog w l}{f:l->V}{kvs:List (l×Value)}(i:(h₀.get? 1).isSome=true)(t:A.handled=none)(R:aU w h₀ σ s)(e:(σ a).isSome=true)(D:s.heap.DictAt knd a kvs n)(r:kvs.length<64)(m:∀k v,knd.is k v=true->∀h:Heap,aG σ h (f k) v)(c:∀{s':Shared}{vs:X9},an (aG σ s'.heap) (kvs.map λp=>f p.1) vs->ta prog w σ s'.heap Q vs):
  wpAny (model prog w) A (call (.builtin "sorted") [.ref a]) (aQ w h₀ σ s Q) bE s:=by
 refine m6 (kdu_collect (A:=A.in1) (kdl_dict (knd:=knd) (kvs:=kvs) (ep:=n) (wb i R (d:=a) e)) t D (gf (ID (P2 r) dD)) λh' g acc q b=>?_)
 have M:=R.more (s':={s with heap:=h',toks:=g}) q rfl rfl
 have U:acc.toList.length=kvs.length:=by exact b.1
 have L:an (aG σ h') (kvs.map λp=>f p.1) acc.toList:=FR m U λj v e=>b.2 j v (by refine sB Rc ?_;exact e)
 exact Qj (tb M.1 (rR U r) (c (s':={s with heap:=h',toks:=g}) L)) (λY s' u=>PO (u) λv o=>(aK v o.1 (o.2.back M.2))) λy y x=>x
theorem uQ{a:Addr}{l:Z9}(o:(h₀.get? 1).isSome=true)(u:A.handled=none)(R:aU w h₀ σ s)(e:σ a=some (.dict es))(r:es.length<64)(k:es.map (·.1)=l.map V.int)(q:∀j:Z9,j.Perm l->j.Pairwise (· <= ·)->alloc (.list (j.map V.int)) σ Q):wpAny (model prog w) A (call (.builtin "sorted") [.ref a]) (aQ w h₀ σ s Q) bE s:=by
 refine dg (R.conc _ _ e) λy n g Y J=>?_;obtain⟨kvs,B,G,D⟩:=q9 (prog:=prog) g Y J λp z=>by refine PO (P1.mp (sB k (P1.mpr (aK p z rfl)):p.1∈l.map V.int)) λi m=>?_;rw[<-m.2];rfl
 rw[G] at k
 refine oO (f:=V.int) o u R (by rw[e];rfl) D (by rw[B];exact r) (λk v h b=>by refine PO (Value.isInt_shape h) λt x=>?_;rw[x];exact bD) λL=>?_
 rw[k] at L
 exact yU L (by rw[<-PL (f:=V.int),<-k,PL,B];exact r) q
theorem vg{a:Addr}{l:Y9}(m:(h₀.get? 1).isSome=true)(C:A.handled=none)(R:aU w h₀ σ s)(e:σ a=some (.dict es))(z:es.length<64)(k:es.map (·.1)=l.map V.str)(q:∀j:Y9,j.Perm l->sortedS j=true->alloc (.list (j.map V.str)) σ Q):wpAny (model prog w) A (call (.builtin "sorted") [.ref a]) (aQ w h₀ σ s Q) bE s:=by
 refine dg (R.conc _ _ e) λy n r u o=>?_;obtain⟨kvs,B,G,D⟩:=yF (prog:=prog) r u o λp I=>by refine PO (P1.mp (sB k (P1.mpr (aK p I rfl)):p.1∈l.map V.str)) λi x=>?_;rw[<-x.2];rfl
 rw[G] at k
 refine oO (f:=V.str) m C R (by rw[e];rfl) D (by rw[B];exact z) (λk v h b=>by refine PO (Value.isStrOf_shape h) λt g=>?_;rw[g];exact gQ) λL=>?_
 rw[k] at L
 exact yL L (by rw[<-PL (f:=V.str),<-k,PL,B];exact z) q
end
end
end
section
variable{cmp:Nat->Nat->(Bool->Shared->Prop)->Shared->Prop}{Y:Nat->Int}{n:Nat}{s:Shared}{p:Array Nat}
mutual
theorem Ny(h:i<=j)(e:j=a)(n: ¬i=a):1<=a:=PJ (PY i) (QN (sB e h) n)
theorem OF(h:i<=j)(e:j=a)(n: ¬i=a):i<=a-1:=Ti (QN (sB e h) n)
theorem Nn(h:j<a+1)(n: ¬j=a):j<a:=QN (QL h) n
theorem Py(h:i<k):0+k-1-i<k:=PJ (ID (TG _ _) (PI (PR (· -1) (Rh k)))) (Te (PJ (PY i) h) SS)
theorem Oq(h:i<=x/\x<k):i<=i+k-1-x/\i+k-1-x<k:=by refine jn (Nat.exists_eq_add_of_lt h.2) λd m=>rR m ?_;rw[show i+(x+d+1)-1-x=i+d by show i+(x+d)-x=_;rw[Nat.add_left_comm,Sy]];exact⟨PM i d,Qq (PX h.1 d)⟩
theorem Po(d:2<=n)(M:m<=n)(e: ¬m=n):m<1+(n-1):=rR (Nat.add_sub_of_le (ID (by decide:1<=2) d)) (QN M e)
theorem Ph(h:l<r)(N:r-l<=f+1):l<=(l+r)/2/\(l+r)/2<r/\(l+r)/2-l<=f/\r-((l+r)/2+1)<=f:=
 have a:l<=(l+r)/2:=(Nat.le_div_iff_mul_le Nat.two_pos).mpr (lq h)
 have b:(l+r)/2<r:=(Nat.div_lt_iff_lt_mul Nat.two_pos).mpr (lq h)
 ⟨a,b,lq (aO (iq a).1 (aO b (aO (iq (P2 h)).2 N))),lq (aO (iq b).1 (aO a (aO (iq (P2 h)).2 N)))⟩
theorem IL(h:l<j)(c:j<=k):l<=j-1/\j-1<k:=⟨Ti h,P5 (Te (PJ (PY l) h) SS) c⟩
theorem Np(n: ¬(l<i/\i<=k))(x: ¬i=l)(h:i<=j)(I:l<j/\j<=k):i<=j-1:=Ti (PJ (QU λz=>n ⟨z,ID h I.2⟩) I.1)
theorem Nb(n: ¬(l<j/\j<=k))(y: ¬j=l)(r:l<=k)(I:j<k+1):j<k:=P5 (QN (QU λz=>n ⟨z,QL I⟩) y) r
def sk(cmp:Nat->Nat->(Bool->Shared->Prop)->Shared->Prop)(Y:Nat->Int)(n:Nat)(s:Shared):=∀i j C,i<n->j<n->C (decide (Y i<Y j)) s->cmp i j C s
def PB(n:Nat)(p:Array Nat):Prop:=p.toList.Perm (List.range n)/\0<n
noncomputable def Fk(Y:Nat->Int)(p:Array Nat)(i:Nat):Int:=Y (p[i]?.getD 0)
theorem PB.lt(h:PB n p)(i:Nat):p.getD i 0<n:=by
 refine rR SM ?_;cases e:p[i]? with
 |none=>exact h.2
 |some x=>exact Sw.mp (h.1.mem_iff.mp (Ro.mpr (Array.mem_of_getElem? e)))
theorem PB.size(h:PB n p):p.size=n:=sB S5 (rR h.1.length_eq (rR QT rfl))
theorem PB.of(h:PB n p)(e:q.Perm p):PB n q:=⟨(Array.perm_iff_toList_perm.mp e).trans h.1,h.2⟩
theorem xm(A:sk cmp Y n s)(h:PB n p){C:Bool->Shared->Prop}(G:Fk Y p i<Fk Y p j->C true s)(d:Fk Y p j<=Fk Y p i->C false s):cmp (p.getD i 0) (p.getD j 0) C s:=by
 refine A _ _ C (h.lt i) (h.lt j) ?_;unfold Fk at G d;refine rR SM (rR SM ?_);by_cases z:Y (p[i]?.getD 0)<Y (p[j]?.getD 0)
 ·exact rR (Qg z) (G z)
 exact rR (Qb z) (d (Su.mp z))
def Up(Y:Nat->Int)(p:Array Nat)(k:Nat):=∀i j,i<=j->j<k->Fk Y p i<=Fk Y p j
theorem Up.succ(h:Up Y p a)(e:1<=a->Fk Y p (a-1)<=Fk Y p a):Up Y p (a+1):=λi j o I=>by
 by_cases z:j=a
 ·by_cases y:i=a
  ·exact rR z (rR y (Tg _))
  exact rR z (SF (h i (a-1) (OF o z y) (Te (Ny o z y) SS)) (e (Ny o z y)))
 exact h i j o (Nn I z)
theorem CR(A:sk cmp Y n s)(h:PB n p){Q:Nat->Shared->Prop}:∀(f a:Nat),Up Y p a->(∀m,a<=m->m<=a+f->(m<a+f->Fk Y p m<Fk Y p (m-1))->Up Y p m->Q m s)->(kas_asc p f a).kasWp cmp Q s
 |0,a,u,q=>q a (PD _) (PD _) (λz=>VC z (RN _)) u
 |f+1,a,u,q=>xm A h (λz=>q a (PD _) (PM ..) (λb=>z) u) λz=>CR A h f (a+1) (u.succ λb=>z) λm C d N=>q m (lq C) (lq d) λz=>N (lq z)
theorem po(h:PB n p)(I:j<=n)(k:Nat):Fk Y (kas_rev p i j) k=if i<=k/\k<j then Fk Y p (i+j-1-k) else Fk Y p k:=by delta Fk kas_rev;rw[getElem?_mirror_all (h.size▸I)];split<;>rfl
theorem PB.rev(h:PB n p):PB n (kas_rev p i j):=h.of (mirror_perm _ _ _ _)
def Dn(Y:Nat->Int)(p:Array Nat)(k:Nat):=∀i j,i<=j->j<k->Fk Y p j<=Fk Y p i
def Sm(Y:Nat->Int)(p:Array Nat)(i k:Nat):=∀j,i<=j->j<k->Fk Y p j=Fk Y p i
theorem Dn.rev(h:PB n p)(d:Dn Y p k)(c:k<=n):Up Y (kas_rev p 0 k) k:=λi j o I=>by rw[po h c,po h c,PW ⟨PY _,by exact(lq (aO o I))⟩,PW ⟨PY _,I⟩];exact d _ _ (S6 o _) (Py (PJ o I))
theorem Sm.rev(h:PB n p)(d:Sm Y p i k)(c:k<=n)(x:Nat):Fk Y (kas_rev p i k) x=Fk Y p x:=by
 rw[po h c];split
 ·rename_i z;exact rR (d _ (Oq z).1 (Oq z).2) (rR (d x z.1 z.2) rfl)
 rfl
theorem zR(z:sk cmp Y n s)(h:PB n p){Q:Nat×Array Nat->Shared->Prop}(c:k<=n)(d:Dn Y p k)(q:∀m A,m<=n->PB n A->Up Y A m->k<=m->Q (m,A) s):(kas_tail3 k n p).kasWp cmp Q s:=by unfold kas_tail3;simp only[Ta];exact CR z h.rev _ _ (d.rev h c) λm C e a u=>q m _ (lq (aO e (iq c).1)) h.rev u C
theorem uH(G:sk cmp Y n s){Q:Array Nat×Nat×Nat->Shared->Prop}:∀(f:Nat){p:Array Nat}(a q:Nat),PB n p->q+1<=a->a+f<=n->Dn Y p a->Sm Y p (a-(q+1)) a->
  (∀A t B,PB n A->B+1<=t->a<=t->t<=n->Dn Y A t->Sm Y A (t-(B+1)) t->Q (A,t,B) s)->(kas_desc f p a q).kasWp cmp Q s
 |0,p,a,q,h,hq,ha,d,e,k=>k p a q h hq (PD _) ha d e
 |f+1,p,a,q,h,hq,ha,d,e,k=>by
  have r:∀{A:Array Nat},(∀x,Fk Y A x=Fk Y p x)->Fk Y p a<=Fk Y p (a-1)->Dn Y A (a+1):=λg z i j o I=>by
   simp only[g,g];by_cases y:j=a
   ·by_cases x:i=a
    ·simp only[y,x];exact Tg _
    simp only[y];exact SF z (d i (a-1) (OF o y x) (Te (Ny o y x) SS))
   exact d i j o (Nn I y)
  have T:∀{A:Array Nat},Sm Y A (a+1-(0+1)) (a+1):=λj C l=>by refine rR (show j=a from Qz (QL l) C) ?_;rfl
  refine xm G h (λz=>?_) λz=>xm G h (λy=>k p a q h hq (PD _) (lq ha) d e) λy=>?_
  ·show KasT.kasWp cmp (if q>0 then _ else _) Q s;split
   ·exact uH G f (a+1) 0 h.rev dA (lq ha) (r (e.rev h (lq ha)) (TT z)) T λA t B C l N=>k A t B C l (lq N)
   exact uH G f (a+1) 0 h dA (lq ha) (r (λb=>rfl) (TT z)) T λA t B C l N=>k A t B C l (lq N)
  refine uH G f (a+1) (q+1) h (lq hq) (lq ha) (r (λb=>rfl) y) (λj C l=>?_) λA t B C l N=>k A t B C l (lq N);simp only[show a+1-(q+1+1)=a-(q+1) from Nat.add_sub_add_right a 1 (q+1)] at C⊢;by_cases x:j=a
  ·simp only[x,<-e (a-1) (S6 (Qn (PY q)) a) (Te (ID (Ra q) hq) SS)];exact UN y z
  exact e j C (Nn l x)
theorem pI(B:sk cmp Y n s)(h:PB n p){Q:Nat×Array Nat->Shared->Prop}(M:1<=k)(c:k<n)(d:∀x,x<k->Fk Y p x=Fk Y p 0)(z:Fk Y p k<Fk Y p 0)(q:∀m A,m<=n->PB n A->Up Y A m->1<=m->Q (m,A) s):(kas_descPart k n p).kasWp cmp Q s:=by
 unfold kas_descPart;simp only[Ta];refine uH B _ (k+1) 0 h dA (lq (iq c).1) (λi j o I=>?_) (λj C e=>by refine rR (show j=k from Qz (QL e) C) ?_;rfl) λA v L C e N r l u=>?_
 ·by_cases x:j<k
  ·simp only[d j x,d i (lq (aO o x))];exact Tg _
  by_cases y:i<k
  ·simp only[show j=k by exact(Qz (lq I) (lq (QU x))),d i y];exact TT z
  exact rR (show i=j by exact(Qz (lq o) (lq (aO I (QU y))))) (Tg _)
 show KasT.kasWp cmp (if L>0 then _ else _) Q s;split
 ·exact zR B C.rev r (λi j o I=>by simp only[u.rev C r,u.rev C r];exact l i j o I) λm A T G t J=>q m A T G t (ID (ID (Ra _) e) J)
 exact zR B C r l λm A T G t J=>q m A T G t (ID (ID (Ra _) e) J)
theorem EF(A:sk cmp Y n s)(h:PB n p){Q:Nat×Array Nat->Shared->Prop}(d:2<=n)(q:∀m B,m<=n->PB n B->Up Y B m->1<=m->Q (m,B) s):(kas_count n p).kasWp cmp Q s:=by
 unfold kas_count;rw[Ta];refine CR A h _ _ (λi j o I=>by refine rR (show i=0 by exact(Qz (lq (aO o I)) dA)) (rR (show j=0 by exact(Qz (lq I) dA)) ?_);exact Tg _) λm C M z u=>?_;have M:m<=n:=by exact(lq (aO M (iq (P2 d)).1))
 by_cases e:m=n
 ·rw[PW (Qd.mpr e)];exact q m p M h u C
 have z:=z (Po d M e);refine rR (PV λy=>e (Qd.mp y)) ?_;have G:∀x,x<=m->Fk Y (kas_rev p 0 m) x=if x<m then Fk Y p (m-1-x) else Fk Y p x:=λx k=>by
  rw[po h M,Rh];by_cases y:x<m
  ·exact rR (PW ⟨PY _,y⟩) (rR (PW y) rfl)
  rw[PV λw=>y w.2,PV y]
 have v:Fk Y (kas_rev p 0 m) 0=Fk Y p (m-1):=by refine rR (G 0 (PY _)) (rR (PW (by exact(lq C))) ?_);rfl
 have J:Fk Y (kas_rev p 0 m) m<Fk Y (kas_rev p 0 m) 0:=by rw[v,G m (PD _),PV (RN _)];exact z
 split
 ·refine xm A h (λa=>q m p M h u C) λy=>pI A h.rev C (QN M e) (λx k=>?_) J q;refine rR v (rR (G x (P2 k)) (rR (PW k) ?_));exact UN (u _ _ (TG _ _) (Te C SS)) (SF y (u _ _ (PY _) (PJ (TG _ _) (Te C SS))))
 rename_i f;exact pI A h C (QN M e) (λx k=>rR (Nat.lt_one_iff.mp (P5 k (QU f))) rfl) (UR (QU f)▸z) q
theorem ut(A:sk cmp Y n s)(h:PB n p){Q:Nat->Shared->Prop}(u:Up Y p k):∀(f l r:Nat),l<=r->r<=k->r-l<=f->(∀i,i<l->Fk Y p i<=Fk Y p k)->(∀i,r<=i->i<k->Fk Y p k<=Fk Y p i)->
  (∀l,l<=k->(∀i,i<l->Fk Y p i<=Fk Y p k)->(∀i,l<=i->i<k->Fk Y p k<=Fk Y p i)->Q l s)->(kas_place p k f l r).kasWp cmp Q s
 |0,l,r,h1,h2,h3,a,b,q=>q l (lq (aO h1 h2)) a λi x y=>b i (lq (aO h3 (aO x (iq h1).2))) y
 |f+1,l,r,h1,h2,h3,a,b,q=>by
  show KasT.kasWp cmp (if l≥r then _ else _) Q s;split
  ·exact q l (lq (aO h1 h2)) a λi x y=>b i (ID (by assumption) x) y
  rename_i e;have e:=Ph (SZ e) h3;refine xm A h (λz=>?_) λz=>?_
  ·exact ut A h u f l _ e.1 (ID (P2 e.2.1) h2) e.2.2.1 a (λi x y=>SF (TT z) (u _ _ x y)) q
  exact ut A h u f _ r e.2.1 h2 e.2.2.2 (λi x=>SF (u i ((l+r)/2) (QL x) (P5 e.2.1 h2)) z) b q
theorem HL(B:sk cmp Y n s){Q:Array Nat->Shared->Prop}:∀(f k:Nat){p:Array Nat},PB n p->k+f=n->Up Y p k->(∀A,PB n A->Up Y A n->Q A s)->(kas_bin f p k).kasWp cmp Q s
 |0,k,p,h,e,u,q=>q p h (sB e u)
 |f+1,k,p,h,e,u,q=>by
  show KasT.kasWp cmp ((kas_place p k k 0 k).bind _) Q s;rw[Ta];refine ut B h u k 0 k (PY _) (PD _) (PD _) (λi x=>VC x (Sf _)) (λi x y=>VC y (TF.mpr x)) λl r a b=>HL B f (k+1) (h.of (bubble_perm _ _ _)) (Qz (lq (fW e)) (lq (mO e))) (λi j o I=>?_) q;have g:∀x,Fk Y (bubble p k (k-l)) x=if x=l then Fk Y p k else if l<x/\x<=k then Fk Y p (x-1) else Fk Y p x:=λx=>by
   unfold Fk;rw[getElem?_bubble (h.size▸(lq (fW e))) _ (TG _ _),Nat.sub_sub_self r];split
   ·rfl
   split<;>rfl
  rw[g,g];by_cases x:i=l
  ·refine rR (PW x) ?_;by_cases y:j=l
   ·rw[PW y];exact Tg _
   refine rR (PV y) (rR (PW ⟨QN (x▸o) (SX y),QL I⟩) ?_);have z:=IL (QN (x▸o) (SX y)) (QL I);exact b _ z.1 z.2
  rw[PV x];by_cases y:j=l
  ·refine rR (PW y) (rR (PV (λz=>BE (aO o (aO (fW y) z.1)))) ?_);exact a i (QN (sB y o) x)
  rw[PV y];split
  ·rename_i z;have z:=P5 z.1 o;exact rR (PW ⟨z,QL I⟩) (u _ _ (UW o 1) (IL z (QL I)).2)
  split
  ·rename_i z w;exact u _ _ (Np z x o w) (IL w.1 w.2).2
  rename_i w;exact u _ _ o (Nb w y r I)
theorem IR(z:sk cmp Y n s){Q:Array Nat->Shared->Prop}(d:2<=n)(q:∀p,PB n p->Up Y p n->Q p s):(kas_sort n).kasWp cmp Q s:=by
 unfold kas_sort;simp only[Ta];refine EF z ⟨List.Perm.refl _,by exact(lq d)⟩ d λm A M h u C=>(?_:KasT.kasWp cmp (if m<n then _ else _) Q s);split
 ·exact HL z _ _ h (rR (TP C) (TR M)) (by show Up Y A (max m 1);exact rR (TP C) u) q
 exact q A h (sB (Qz M (QU (by assumption))) u)
end
end
section
variable{prog:Program}{A:Around}
section
variable{w:World}{σ:Hp}{s:Shared}
mutual
theorem Hu(e:p.1<q.1)(h:p.2<1000000)(h':0<=q.2):kP p<kP q:=
 Int.lt_of_lt_of_le (Int.add_lt_add_left h _) (SF (SF (Int.le_of_eq (by rw[Int.add_mul,Int.one_mul])) (Int.mul_le_mul_of_nonneg_right e dD)) (Int.le_add_of_nonneg_right h'))
theorem Mz(h:0<=p.2/\p.2<1000000)(h':0<=q.2/\q.2<1000000):decide (kP p<kP q)=if p.1==q.1 then decide (p.2<q.2) else decide (p.1<q.1):=by
 by_cases e:p.1=q.1
 ·exact rR (PW (Qd.mpr e)) (QJ.mpr (by unfold kP;exact rR e (Int.add_lt_add_iff_left _)))
 exact rR (PV λz=>e (Qd.mp z)) (QJ.mpr ⟨λz=>VA.mp λy=>VC z (Su.mpr (TT (Hu (Int.lt_iff_le_and_ne.mpr ⟨y,SX e⟩) h'.2 h.1))),λz=>Hu z h.2 h'.1⟩)
inductive xP(h:Heap):List (Int×Int)->X9->X9->Prop
 |nil:xP h [] [] []
 |cons {p l b t u n vr fr} (ho:IsT h b #[.int p.1 t,.int p.2 u] n) (r:xP h l vr fr):xP h (p::l) (.ref b::vr) (.int p.1 t::fr)
theorem Cd{P:Value->Prop}(x:aG σ h (cT p) v)(k:∀b t u n,IsT h b #[.int p.1 t,.int p.2 u] n->P (.ref b)):P v:=by refine zG (x.tup_inv) λb z n J _ g y=>?_;obtain⟨items⟩:=z;exact rR J (y.two (P:=λl=>IsT h b ⟨l⟩ n->P (.ref b)) (λL C B r g=>by obtain⟨t,rfl⟩:=B.int_inv;obtain⟨u,rfl⟩:=r.int_inv;exact k b t u n g) g)
theorem IT(r:an (aG σ h) (ns.map cT) vs):∃y,xP h ns vs y:=by
 induction ns generalizing vs with
 |nil=>cases r;exact⟨_,.nil⟩
 |cons p ns ih=>exact r.uncons (P:=λvs=>∃y,xP h (p::ns) vs y) λv N x r=>(ih r).elim λy i=>Cd (P:=λv=>∃y,xP h (p::ns) (v::N) y) x λb t u n g=>⟨_,.cons g i⟩
theorem xP.tups(x:xP h ns vs fs):KatTups h vs fs/\vs.length=ns.length/\fs.length=ns.length/\∀v∈fs,∃i t,v=.int i t:=by
 induction x with
 |nil=>exact⟨.nil,rfl,rfl,bP⟩
 |cons ho r i=>exact⟨.cons ho rfl rfl rfl i.1,PR (· +1) i.2.1,PR (· +1) i.2.2.1,eg (vy _ _ rfl) i.2.2.2⟩
theorem xP.at_(x:xP h ns vs fs):∀{i:Nat},i<ns.length->∃b t u n,vs.getD i .none=.ref b/\IsT h b #[.int (ns.getD i (0,0)).1 t,.int (ns.getD i (0,0)).2 u] n:=by
 induction x with
 |nil=>exactλhi=>VC hi (Sf _)
 |cons ho r ih=>exactλ{i} hi=>by induction i with
  |zero=>exact(O0 _ _ _ _ rfl ho)
  |succ i=>exact ih (Ri hi)
theorem xP.keep(k:∀b x n,IsT h b x n->IsT h' b x n)(x:xP h ns vs fs):xP h' ns vs fs:=by
 induction x with
 |nil=>exact .nil
 |cons ho r ih=>exact .cons (k _ _ _ ho) ih
theorem DC(h:xP s.heap ns vs fs)(f:∀p∈ns,0<=p.2/\p.2<1000000):sk (kas_ask prog w A (tuples' true) vs) (λi=>kP (ns.getD i (0,0))) ns.length s:=λi j C hi I q=>by
 refine Kx (h.at_ hi) λb t u n k c=>Kx (h.at_ I) λb' G d e r N=>?_;have M:∀{i:Nat},i<ns.length->0<=(ns.getD i (0,0)).2/\(ns.getD i (0,0)).2<1000000:=λ{i} hi=>f _ (by refine(Qe (Sd))▸?_;refine rR (P4 hi) ?_;exact Rq hi);unfold kas_ask;refine rR k (rR r ?_);have q:C (decide (kP (ns.getD i (0,0))<kP (ns.getD j (0,0)))) s:=q;rw[Mz (M hi) (M I)] at q;refine kat_lt c rfl N rfl (kat_cons (wpAny_eqBool_int ?_));unfold KatGo;split
 ·rename_i z;rw[PW z] at q;refine kat_cons (wpAny_eqBool_int ?_);unfold KatGo;split
  ·rename_i y;refine kat_nil ?_;rw[show decide ((ns.getD i (0,0)).2<(ns.getD j (0,0)).2)=false from Qb ((Qe (Qd.mp y))▸(Int.lt_irrefl _))] at q;exact q
  exact kat_one _ _ (P.lt_int q)
 rename_i z;rw[PV z] at q;exact oneLt_int q
theorem Ij{ns:List (Int×Int)}(r:an (aG σ h) (ns.map cT) vs){i:Nat}(hi:i<ns.length):aG σ h (cT (ns.getD i (0,0))) (vs.getD i .none):=by refine am (r.get i (cT ns[i]) (by refine rR QS (rR (P4 hi) ?_);rfl)) λb e x=>?_;refine rR Sd (rR Sd (rR e (rR (P4 hi) ?_)));exact x
theorem JY{ns:List (Int×Int)}(r:an (aG σ h) (ns.map cT) vs)(L:W9)(t:∀i∈L,i<ns.length):an (aG σ h) ((L.map λi=>ns.getD i (0,0)).map cT) (L.map λi=>vs.getD i .none):=by
 induction L with
 |nil=>exact .nil
 |cons i L ih=>exact .cons (Ij r (t i (.head _))) (ih λi m=>t i (.tail _ m))
theorem sS{t:Type}{ns:List t}{d:t}:((List.range ns.length).map λi=>ns.getD i d)=ns:=
 List.ext_getElem (by rw[PL,QT]) λi C e=>by rw[List.getElem_map,T6,Sd,P4 e];rfl
theorem vW{Q:V->Hp->Prop}{ns:List (Int×Int)}{vs:X9}(r:an (aG σ s.heap) (ns.map cT) vs)(hl:ns.length<64)(hb:∀p∈ns,0<=p.2/\p.2<1000000)(q:∀l':List (Int×Int),l'.Perm ns->l'.Pairwise (λa b=>kP a<=kP b)->alloc (.list (l'.map cT)) σ Q):ta prog w σ s.heap Q vs:=λ{A a s' PP E} k N h=>by
 refine PO (IT r) λfs y=>?_;have u:=y.tups.2.1;have hf:=y.tups.2.2.1;have hi:=y.tups.2.2.2;have out:∀p:Array Nat,p.toList.Perm (List.range ns.length)->Up (λi=>kP (ns.getD i (0,0))) p ns.length->PP (.done (.ret .none)) {s' with heap:=sortedHeap s'.heap a vs (List.toArray (p.toList.map λi=>vs.getD i Value.none))}:=λp y up=>by
  refine h _ ((p.toList.map λi=>ns.getD i (0,0)).map cT) (JY r p.toList (λi m=>Sw.mp (y.mem_iff.mp m):∀i∈p.toList,i<ns.length)) (q _ ?_ ?_)
  ·have z:=y.map λi=>ns.getD i (0,0);rwa [sS] at z
  rw[To,Uh];intro i j hi J B;have hz:=y.length_eq;simp only[QT] at hz;have g:∀{i}(hi:i<p.toList.length),p[i]?.getD 0=p.toList[i]:=λ{i} hi=>by refine sB Rc (rR (P4 hi) ?_);rfl
  have z:=up i j (P2 B) (lq (aO J (fW hz)));unfold Fk at z;rw[g hi,g J] at z;exact z
 rw[list_sort_plain];have hz:vs.length<=sizeLine:=gf (ID (P2 (rR u hl)) dD);refine PN (listItems_at N rfl ?_);refine PN (listUpdate_at N rfl ?_ hz (PY _));obtain⟨e1,L⟩:∃e1,(s'.heap.update a (Obj.mapSeq λc=>#[])).get? a=some (seqObj "list" #[] e1):=⟨_,get?_update_seq N (λc=>#[])⟩;refine PN (seqEpoch_at L rfl ?_);refine PN (UX ?_ hz);refine PN (Uo ?_ (PY _));refine Qr ?_;have old:∀b o,b≠a->s'.heap.get? b=some o->(((s'.heap.update a (Obj.mapSeq λc=>#[])).push (seqObj "tuple" vs.toArray 0)).push (seqObj "list" #[] 0)).get? b=some o:=λb o n e=>
  Ql _ (Ql _ ((Vd _ _ _ _ n).trans e));have I:(((s'.heap.update a (Obj.mapSeq λc=>#[])).push (seqObj "tuple" vs.toArray 0)).push (seqObj "list" #[] 0)).get? a=some (seqObj "list" #[] e1):=Ql _ (Ql _ L);have f:xP (((s'.heap.update a (Obj.mapSeq λc=>#[])).push (seqObj "tuple" vs.toArray 0)).push (seqObj "list" #[] 0)) ns vs fs:=y.keep λb x n e=>old b _ (λz=>by subst z;exact VC (Value.type.inj (PR Obj.cls (Qh ((k _ _ e).symm.trans N)))) (by decide+kernel)) (k _ _ e);show wpAny (model prog w) A _ PP E {s' with heap:=((s'.heap.update a (Obj.mapSeq λc=>#[])).push (seqObj "tuple" vs.toArray 0)).push (seqObj "list" #[] 0)};by_cases d:vs.toArray.size<2
 ·refine rR (PW d) (rR (PW d) ?_);refine PN (Qa ?_);refine PN (Qa ?_);dsimp only;refine PN (seqEpoch_at I rfl ?_);have e:(arrOf (SortSt.mk' general' (vs.toArray.zip vs.toArray) #[] 7 none)).map (·.2)=List.toArray ((List.toArray (List.range ns.length)).toList.map λi=>vs.getD i Value.none):=by rw[List.toList_toArray,<-u,sS];exact(Array.map_snd_zip (PD _))
  refine PN (listUpdate_at I rfl ?_ (PY _) (by show Array.size (Array.map _ (arrOf _))<=_;rw[e,SN,PL];refine rR QT (sB u ?_);exact QI hz));simp only[bne_self_eq_false,Q6,Tk];have z:=out (List.toArray (List.range ns.length)) (List.Perm.refl _) λi j B J=>by rw[SN] at d;rw[show i=0 by exact Qz (lq (aO (mO u) (aO d (aO B J)))) dA,show j=0 by exact Qz (lq (aO (mO u) (aO d J))) dA];exact Tg _
  rw[<-e] at z;exact Qa z
 refine rR (PV d) (rR (PV d) ?_);have C:2<=vs.length:=by rw[SN] at d;exact lq (QU d)
 have T:=f.tups;refine PN (kat_kind (T:=.type "int") T.1 (by rw[T.2.2.1,<-u];exact lq C) (λv u=>i5 (hi v u) λi t M=>rR M (.of_pure rfl)) (by decide+kernel) ?_);refine rR (show(Value.type "int" !=Value.type "tuple")=true by decide+kernel) (PN (Qj (kat_run (ks:=vs) (vs:=vs) (Q:=λY l=>l={s' with heap:=((s'.heap.update a (Obj.mapSeq λc=>#[])).push (seqObj "tuple" vs.toArray 0)).push (seqObj "list" #[] 0)}/\∃p,PB ns.length p/\Up (λi=>kP (ns.getD i (0,0))) p ns.length/\arrOf Y=p.map (kas_item (vs.toArray.zip vs.toArray))/\failedOf Y=none)
  (G:=λp l=>l={s' with heap:=((s'.heap.update a (Obj.mapSeq λc=>#[])).push (seqObj "tuple" vs.toArray 0)).push (seqObj "list" #[] 0)}/\PB ns.length p/\Up (λi=>kP (ns.getD i (0,0))) p ns.length) rfl C (u▸hl) (λp Y l a1 a2 a3 U=>⟨U.1,p,U.2.1,U.2.2,a2,a3⟩) (by rw[u];exact IR (DC f hb) (sB u C) λp h1 d=>⟨rfl,h1,d⟩)) ?_ λc c e=>e));rintro⟨⟨⟩,Y⟩ l ⟨rfl,p,y,up,har,hf⟩;dsimp only;refine PN (seqEpoch_at I rfl ?_);refine PN (listUpdate_at I rfl ?_ (PY _) (by show Array.size (Array.map _ (arrOf Y))<=_;rw[(kat_snds (ks:=vs) (vs:=vs) rfl har),SN,PL,S5,y.size,<-u];exact QI hz));refine rR hf ?_;simp only[bne_self_eq_false,Q6,Tk];have z:=out p y.1 up;rw[<-(kat_snds (ks:=vs) (vs:=vs) rfl har)] at z;exact Qa z
end
end
structure wi(w:World)(K:Frag)(h₀:Heap)(T:nc):Prop where
 attr:∀C n,T.attr C n=true->plainGet K C n=true/\hasDictIn K C=true/\(∃a,findIn K (.ref C) n=some a/\noGet K a=true)/\
  findIn K (.ref C) "__setattr__" =some (some (.builtin "object.__setattr__"))/\plainOver K C=true/\takerIn K C n=some none
 meth:∀C n f,T.meth C n=some f->plainGet K C n=true/\findIn K (.ref C) n=some (some (.ref f))/\isFn K (.ref f)=true/\keepIn K (.ref f)=true
 cls:∀C g,T.cls C=some (some g)->makesIn K C=true/\findIn K (.ref C) "__init__" =some (some (.ref g))/\typeIn K (.ref g)=some (.type "function")
 cls0:∀C,T.cls C=some none->makesIn K C=true/\findIn K (.ref C) "__init__" =some (some (.builtin "object.__init__"))
 fro:∀a es,T.fro a=some es->(a==sysModules)=false/\∃ba n,h₀.get? a=some {cls:=.type "dict",data:=.dict ba n}/\(∀(σ:Hp)(s:Shared),aU w h₀ σ s->an (bF w σ s.heap) es ba.toList)/\(es.map (·.1)).Nodup
 seq:∀a l,T.seq a=some l->∃items,h₀.IsList a items/\∀(σ:Hp)(s:Shared),aU w h₀ σ s->an (aG σ s.heap) l items.toList
section
variable{w:World}{h₀:Heap}{σ:Hp}{s:Shared}{Q:V->Hp->Prop}{K:Frag}{T:nc}
mutual
theorem Bn(r:aG σ s.heap x u):handedIn u=true:=by
 cases x
 ·subst r;rfl
 ·subst r;rfl
 ·obtain⟨t,rfl⟩:=r;rfl
 ·obtain⟨t,rfl⟩:=r;rfl
 ·refine AC (r) λ_ _ _ y _=>rR y ?_;rfl
 ·obtain⟨rfl,_⟩:=r;rfl
 ·refine Kx (r) λ_ _ _ _ p _=>rR p ?_;rfl
 subst r;rfl
theorem nB(x:iO σ s.heap p e)(n:Str):e.key.isStr n=decide (p.1=n):=by refine PO (x.1) λt h=>rR h (?_:(p.1==n)=_);by_cases e:p.1=n<;>simp [e]
theorem MQ(r:an (iO σ s.heap) fs es):es.any (·.refKey)=false:=by
 induction r with
 |nil=>rfl
 |cons x _ ih=>simp only[R6,ih,Rz];refine PO (x.1) λt h=>?_;unfold DictEntry.refKey;exact rR h rfl
theorem tP(r:an (iO σ s.heap) fs es)(h:aX n fs=some v):∃u,getL n es=some (some u)/\aG σ s.heap v u:=by
 suffices∃e,es.find? (λx=>x.key.isStr n)=some e/\aG σ s.heap v e.val by exact am (this) λe U I=>(aK e.val (by unfold getL;exact rR U rfl) I)
 induction r with
 |nil=>cases h
 | @cons p e l r' x _ ih=>
  obtain⟨a,b⟩:=p;simp only[aX] at h;simp only[List.find?_cons,nB x n];by_cases q:a=n
  ·replace h:=(PW q)▸h;cases h;simp only[q,decide_true];exact(aK e rfl x.2)
  replace h:=(PV q)▸h;simp only[q,SY];exact ih h
theorem sO(r:an (iO σ s.heap) fs es)(h:aX n fs=none):getL n es=some none:=by
 have nr:=MQ r;suffices es.find? (λx=>x.key.isStr n)=none by unfold getL;refine rR this (rR nr ?_);rfl
 clear nr;induction r with
 |nil=>rfl
 | @cons p e l r' x _ ih=>
  obtain⟨a,b⟩:=p;simp only[aX] at h;refine rR List.find?_cons ?_;refine rR (nB x n) ?_;by_cases q:a=n
  ·replace h:=(PW q)▸h;cases h
  replace h:=(PV q)▸h;simp only[q,SY];exact ih h
theorem uu(R:aU w h₀ σ s)(e:σ a=some (.inst C dx fs)):∃es n,InstAt s.heap a (instObj C dx) C (some (dictOf es n))/\s.heap.get? dx=some (dictOf es n)/\an (iO σ s.heap) fs es/\(fs.map (·.1)).Nodup:=by have h:=R.conc a _ e;exact dg (h.2.2) λes n I x J=>(Et es n ⟨h.2.1,rfl,rfl,I⟩ I x J)
theorem pX{P:V8}(r:wi w K h₀ T)(X:K.In s.heap)(R:aU w h₀ σ s)(e:σ a=some (.inst C dx fs))(x:T.attr C n=true)(y:aX n fs=some v)(q:∀u,aG σ s.heap v u->∀m,P u {s with toks:=m}):wpAny (model prog w) A (getAttr (.ref a) n expr) P bE s:=by
 have L:=r.attr C n x;exact am (L.2.2.1) λhV t U=>oU (uu R e) λes k p M f nd=>am (tP f y) λu c o=>get_value X p (Vw L.1).1 (findObj_own L.2.1 t U c) (Bn o) (q u o _)
theorem u4{P:Value×X9->Shared->Prop}(r:wi w K h₀ T)(X:K.In s.heap)(R:aU w h₀ σ s)(e:σ a=some (.inst C dx fs))(M:T.meth C n=some f)(p:aX n fs=none)(q:P (.ref f,[.ref a]) s):wpAny (model prog w) A (getMethod (.ref a) n pl) P bE s:=by
 have U:=r.meth C n f M;exact oU (uu R e) λes k B L g nd=>method_fn X B (Vw U.1).1 (Vw U.1).2 U.2.1 (Qd.mp U.2.2.1) (by show(lookIn n (dictOf es k)).map _=_;simp only[lookIn_dict,sO g p];rfl) q
set_option tactic.hygienic true in
theorem FV{R:Result->Shared->Prop}(X:K.In s.heap)(I:InstAt s.heap x ox C (some (dictOf es n)))(L:ox.dict=some dx)(D:s.heap.get? dx=some (dictOf es n))(B:plainOver K C=true)(ht:takerIn K C name=some none)(y:hasDictIn K C=true)(r:(getL name es).isSome=true)(hz:(putL name (PyData.keyHash w.params name) (.str name s.toks) v es).length<=1000)(h:∀h',Heap.SameBut dx s.heap h'->h'.get? dx=some (dictOf (putL name (PyData.keyHash w.params name) (.str name s.toks) v es) (putN name es n))->R (.ok (.ret .none)) {s with heap:=h',toks:=s.toks+1}):
  codeAny (model prog w) A (.call (.builtin "object.__setattr__") ⟨[.ref x,.str name tk,v],[]⟩) R s:=by
 refine osa_open X I B ht λb=>am (any_some y) λJ M d=>?_;have t:(s.heap.update dx (Obj.putName name (PyData.keyHash w.params name) (.str name s.toks) v)).get? dx=some (dictOf (putL name (PyData.keyHash w.params name) (.str name s.toks) v es) (putN name es n)):=by
  rw[<-putName_dict]
  exact RF _ D (by rw[putName_dict];rfl)
 obtain⟨i,G,f,-⟩:=I
 obtain⟨g,e,q,j⟩:=ox
 dsimp only at G L
 subst G L
 refine PN (Qa (PN (PN (wpAny_loadPart i (PN ((looks_clsIn X M).here ?_))))))
 refine rR d (Qa (a:=some dx) (PN (Qa (PN ?_))))
 refine PN (PN (wpAny_askSetting (Qa (PN (wpAny_mkText (PN (wpAny_loadPart D ?_)))))))
 dsimp only
 have c:(!es.toArray.any (·.key.isStr name)&&es.toArray.any (·.refKey))=false:=by
  rw[List.any_toArray,List.any_toArray]
  unfold getL at r
  split at r
  ·rename_i en u
   refine rR (List.any_eq_true.mpr (aK en (List.mem_of_find?_eq_some u) (List.find?_some u))) ?_;rfl
  ·split at r
   ·cases r
   ·rename_i z;rw[Bool.not_eq_true] at z;rw[z,Sz]
 rw[aRefKeyMayBeTheName_at,c]
 refine wpAny_updatePart D (PN (wpAny_lookBehind t (pastItsLine_dict (by refine rR SN (rR sizeLine_eq ?_);exact lq hz)) ?_))
 exact Qa (h _ (R3 ..) t)
theorem qg(r:an (iO σ s.heap) fs es)(y:aG σ s.heap v u):an (iO σ s.heap) (bQ n v fs) (putL n hs (.str n t) u es):=by
 induction r with
 |nil=>exact .cons ⟨⟨t,rfl⟩,y⟩ .nil
 | @cons p e l r' x r ih=>
  obtain⟨a,b⟩:=p;simp only[bQ,putL,nB x n];by_cases q:a=n
  ·simp only[q,if_true,decide_true];exact(Qe (q))▸(.cons ⟨x.1,y⟩ r)
  simp only[q,Tk,SY,Q6];exact .cons x ih
theorem iM:∀{u:Y7},(u.map (·.1)).Nodup->((bQ n v u).map (·.1)).Nodup/\∀x,x∈(bQ n v u).map (·.1)->x=n\/x∈u.map (·.1)
 |[],_=>by simp [bQ]
 |(a,b)::r,h=>by
  simp only[QG,QK] at h;simp only[bQ];split
  ·rename_i q;refine⟨by simp only[QG,QK];exact h,λx i=>.inr i⟩
  rename_i q;refine⟨?_,λx i=>?_⟩
  ·simp only[QG,QK];refine⟨λm=>?_,(iM (n:=n) (v:=v) h.2).1⟩;rcases(iM (n:=n) (v:=v) h.2).2 a m with e|e
   ·exact q e
   exact h.1 e
  rcases P0.mp i with rfl|i
  ·exact .inr (.head _)
  rcases(iM (n:=n) (v:=v) h.2).2 x i with e|e
  ·exact .inl e
  exact .inr (.tail _ e)
theorem qq(J:wi w K h₀ T)(X:K.In s.heap)(R:aU w h₀ σ s)(m:aG σ s.heap x xu)(I:aG σ s.heap v vu)(h:bU T x n v ρ P σ):
  wpAny (model prog w) A (setAttr xu n vu) (λc s'=>∃o,aU w h₀ o s'/\aA aS σ s o s'/\P .next ρ o) bE s:=by
 unfold bU at h
 refine vo (h) λa C dx B Y=>Iw (Y) λf e L hz q=>?_;subst f
 refine rR m.ref_inv ?_
 have l:=J.attr C n L;refine oU (uu R e) λes k U i r y=>?_;have M:(getL n es).isSome=true:=by
  cases j:aX n B with
  |none=>refine(Qe (sO r j))▸?_;rfl
  |some z=>refine am (tP r j) λu p _=>rR p ?_;rfl
 refine set_plain X U l.2.2.2.1 (FV (s:={s with toks:=s.toks+1}) X U rfl i l.2.2.2.2.1 l.2.2.2.2.2 l.2.1 M (((qg (n:=n) (hs:=PyData.keyHash w.params n) (t:=s.toks+1) r I).length)▸hz) λh' hs b=>?_)
 have:=R.field (s':={s with heap:=h',toks:=s.toks+1+1}) (fs':=bQ n v B) e hs (λG=>(ng _ _ b ((qg (n:=n) (hs:=PyData.keyHash w.params n) (t:=s.toks+1) r I).mono λc c x=>⟨x.1,x.2.grow G aP.none⟩) ((iM y).1))) rfl rfl
 exact(oW _ this.1 this.2 q)
theorem sJ{items:Array Value}{k:Int}{v:Value}{P:W8}(g:s.heap.get? l=some (listOf items n))(C:0<=k)(o:k<2^63)(e:k<items.size)(x:P () {s with heap:=s.heap.update l (Obj.mapSeq (·.setIfInBounds k.toNat v))}):wpAny (model prog w) A (setItem (.ref l) (.int k t) v) P bE s:=by
 have U:s.TypeIs (.ref l) "list":=⟨_,g,rfl⟩
 unfold setItem
 try with_reducible refine Qr ?_
 first|refine PN (Qa ?_)|skip
 refine PN (Uk U dD ?_)
 refine PN (Tf (name:=Str.ofString "__setitem__") U slot_list_setitem
  (Sx slot_list_setitem U entry_list_setitem ?_ (args_list_setitem _ _ _)))
 show wpAny _ _ (Builtin.List.listSubscript? (.int k t)>>=_) _ _ s
 refine PN (wpAny_listSubscript_int (fitsIndex_of C o) ?_)
 clear o
 obtain⟨j,rfl⟩:=Int.eq_ofNat_of_zero_le C
 have I:j<items.size:=by lia
 refine PN (PN (wpAny_seqItemAt g rfl (Qa ?_)))
 refine(Qe ((Ug I:items[j]?=some items[j])))▸?_
 refine PN (wpAny_setSeqItemAt g rfl ?_)
 first
  |exact PN (Qa (Qa (aK .none rfl (Qa x))))
  |exact Qa (aK .none rfl (Qa x))
set_option tactic.hygienic true in
theorem qM{x k v:V}{L B J:Value}{ρ:Env}{P:KS}(d:A.units+5<cLine)(R:aU w h₀ σ s)(i:aG σ s.heap x L)(c:aG σ s.heap k B)(z:aG σ s.heap v J)(h:cL x k v ρ P σ):
  wpAny (model prog w) A (setItem L B J) (λb s'=>∃o,aU w h₀ o s'/\aA aS σ s o s'/\P .next ρ o) bE s:=by
 unfold cL at h
 cases h with
 |dict e f N q=>
  refine rR i.ref_inv (dg (R.conc _ _ e) λy n Y r I=>t7 Y r I f c z d N λh' C u n' hs M r' U=>?_)
  have:=R.write (s':={s with heap:=h',toks:=n'}) (o':=.dict (gJ k v _)) e rfl hs (λG=>⟨C,u,M,r'.mono λb b x=>⟨x.1,x.2.1.grow G aP.none,x.2.2.1,x.2.2.2.grow G aP.none⟩,U⟩) rfl rfl
  exact(oW _ this.1 this.2 q)
 |list e h h' q=>
  rename_i a l j
  refine rR i.ref_inv (PO (c.int_inv) λt p=>(p)▸(eA (R.conc _ _ e) λitems n m g=>sJ m (Rb j) (by lia) (rR (bz g) (UD.mpr h)) ?_))
  have:=R.write (s':={s with heap:=s.heap.update a (Obj.mapSeq (·.setIfInBounds j J))}) (o':=.list (l.set j v)) e rfl (R3 ..) (λG=>
   ⟨items.setIfInBounds j J,_,RF _ m (T4 rfl),by exact rR (by simp:(items.setIfInBounds j J).toList=items.toList.set j J) ((g.set z j).mono λb b x=>x.grow G aP.none)⟩) rfl rfl
  exact(oW _ this.1 this.2 q)
end
end
structure Sc where
 names:List (Str×NameKind)
 slots:List (Str×Nat)
def jf(env:PySem.Env)(b:Addr):Prop:=b=env.locals\/∃x,env.cells.lookup x=some b
structure Loc(sc:Sc)(env:PySem.Env)(h₀ h:Heap)(σ:Hp)(ρ:Z8):Prop where
 kind:env.scope.kind=.function
 names:env.scope.names=sc.names
 glob:env.globals=mainGlobals
 blt:env.builtins=builtinsNs
 ns:∃m,h.Ns env.locals m/\∀x i v,sc.slots.lookup x=some i->get ρ i=some v->sc.names.lookup x=some .local->∃u,m x=some u/\aG σ h v u
 cells:∀x c,env.cells.lookup x=some c->∃v,h.IsCell c v
 cel:∀x i v,sc.slots.lookup x=some i->get ρ i=some v->sc.names.lookup x=some .cell->∃c u,env.cells.lookup x=some c/\h.IsCell c (some u)/\aG σ h v u
 own:∀b,jf env b->σ b=none/\h₀.get? b=none
 apart:∀x y c,env.cells.lookup x=some c->env.cells.lookup y=some c->x=y
 has:∀x,sc.names.lookup x=some .cell->(env.cells.lookup x).isSome=true
section
variable{w:World}{h₀:Heap}{σ Y:Hp}{s s':Shared}{sc:Sc}{env:PySem.Env}{ρ:Z8}
mutual
theorem Loc.at(L:Loc sc env h₀ s.heap σ ρ)(o:jf env b):∃ob,s.heap.get? b=some ob/\gU ob:=by
 rcases o with rfl|⟨x,i⟩
 ·exact PO L.ns λm h=>Kg h.1 λo es ep T M _=>(aK o T ⟨λa items n e=>(by replace e:=M▸e;cases e),λa vs e=>(by replace e:=M▸e;cases e)⟩)
 exact eA (L.cells x b i) λv o f t=>(aK o f ⟨λa items n e=>(by replace e:=t▸e;cases e),λa vs e=>(by replace e:=t▸e;cases e)⟩)
theorem Loc.fram(L:Loc sc env h₀ s.heap σ ρ):aP s.heap (jf env):=λb o x g=>by refine am (L.at x) λob h hi=>?_;replace h:=(g)▸h;cases h;exact hi
theorem Loc.growX{X:Addr->Prop}(L:Loc sc env h₀ s.heap σ ρ)(g:aA X σ s Y s')(F:aP s.heap X)(d:∀b,jf env b-> ¬X b):Loc sc env h₀ s'.heap Y ρ where
 kind:=L.kind
 names:=L.names
 glob:=L.glob
 blt:=L.blt
 ns:=by refine am (L.ns) λm U I=>Kg (U) λo es ep h N t=>(aK m ⟨o,es,ep,g.keep _ o (d _ (.inl rfl)) h (L.own _ (.inl rfl)).1,N,t⟩ (λx i v a b c=>?_));exact am (I x i v a b c) λu e l=>(aK u e (l.grow g F))
 cells:=λx c e=>by exact eA (L.cells x c e) λv o h B=>⟨v,o,g.keep _ o (d _ (.inr ⟨x,e⟩)) h (L.own _ (.inr ⟨x,e⟩)).1,B⟩
 cel:=λx i v a b k=>by exact dg (L.cel x i v a b k) λc u e f M=>PO (f) λo C=>(ng c u e ⟨o,g.keep _ o (d _ (.inr ⟨x,e⟩)) C.1 (L.own _ (.inr ⟨x,e⟩)).1,C.2⟩ (M.grow g F))
 own:=λb o=>by exact am (L.at o) λob z _=>⟨g.free b ob z (L.own b o).1,(L.own b o).2⟩
 apart:=L.apart
 has:=L.has
theorem Loc.grow(L:Loc sc env h₀ s.heap σ ρ)(g:aA aS σ s Y s'):Loc sc env h₀ s'.heap Y ρ:=L.growX g aP.none λa a h=>h
theorem aA.transX{X:Addr->Prop}{σ s Y s' σ'' s''}(a:aA X σ s Y s')(b:aA X Y s' σ'' s'')(h:∀x,X x->∃o,s'.heap.get? x=some o):aA X σ s σ'' s'':=
 ⟨λx o u e f=>b.keep x o u (a.keep x o u e f) (a.free x o e f),
  λx o e f=>by
   by_cases u:X x
   ·exact PO (h x u) λo' c=>b.free x o' c (a.free x o e f)
   exact b.free x o (a.keep x o u e f) (a.free x o e f),λx e=>b.dom x (a.dom x e),b.os.trans a.os⟩
theorem aA.transN{X:Addr->Prop}{σ s Y s' σ'' s''}(a:aA aS σ s Y s')(b:aA X Y s' σ'' s''):aA X σ s σ'' s'':=
 ⟨λx o u e f=>b.keep x o u (a.keep x o (λh=>h) e f) (a.free x o e f),
  λx o e f=>b.free x o (a.keep x o (λh=>h) e f) (a.free x o e f),λx e=>b.dom x (a.dom x e),b.os.trans a.os⟩
theorem aA.up{X:Addr->Prop}{σ s Y s'}(a:aA aS σ s Y s'):aA X σ s Y s':=a.weaken λb b b h=>h.elim
theorem iF:∀{ρ:Z8}{i:Nat}{u:V},get (set ρ i v) i=some u->u=v
 |[],_,_,h=>nomatch h
 |_::_,0,_,h=>(Qh h).symm
 |_::r,i+1,_,h=>iF (ρ:=r) (i:=i) h
theorem gb:∀{ρ:Z8}{i j:Nat},j≠i->get (set ρ i v) j=get ρ j
 |[],_,_,_=>rfl
 |_::_,0,0,h=>VC rfl h
 |_::_,0,_+1,_=>rfl
 |_::_,_+1,0,_=>rfl
 |_::r,i+1,j+1,h=>gb (ρ:=r) λe=>h (PR _ e)
noncomputable def sg(sc:Sc)(x:Str)(i:Nat):Bool:=sc.slots.all λp=>p.1==x||p.2 !=i
theorem lX(h:sg sc x i=true)(B:sc.slots.lookup y=some j)(f:y≠x):j≠i:=by
 have:=Qc.mp h (y,j) (Rv B);rcases Qw.mp this with e|e
 ·exact VC (Qd.mp e) f
 exact bne_iff_ne.mp e
theorem I7(L:Loc sc env h₀ s.heap σ ρ):(env.scope.kind==.class||(env.scope.kind==.module&&env.locals !=env.globals))=false:=by refine(Qe (L.kind))▸?_;rfl
theorem Loc.kindOf(L:Loc sc env h₀ s.heap σ ρ)(x:Str):env.kindOf x=sc.names.lookup x:=by unfold PySem.Env.kindOf;exact rR L.names rfl
theorem eV(R:aU w h₀ σ s){b:Addr}{h':Heap}{n:Nat}(f:σ b=none/\h₀.get? b=none)(hi:∀o,s.heap.get? b=some o->gU o)(k:∀x o,x≠b->s.heap.get? x=some o->h'.get? x=some o):
  aU w h₀ σ {s with heap:=h',toks:=n}/\aA (λx=>x=b) σ s σ {s with heap:=h',toks:=n}:=
 R.moreX (X:=λx=>x=b) (λx o e g=>hi o (sB e g)) (λx e=>rR e f) k rfl rfl
theorem ti{E:V8}{Q:W8}(L:Loc sc env h₀ s.heap σ ρ)(R:aU w h₀ σ s)(hx:sc.slots.lookup x=some i)(hk:sc.names.lookup x=some .local)(hl:sg sc x i=true)(hv:aG σ s.heap v u)(q:∀s',aU w h₀ σ s'->aA (λb=>b=env.locals) σ s σ s'->Loc sc env h₀ s'.heap σ (set ρ i v)->Q () s'):
  wpAny (model prog w) A (storeName env x u) Q E s:=by
 refine am L.ns λm hn C=>wpAny_storeName_local ((L.kindOf x).trans hk) hn (λh' I M=>?_) (I7 L)
 refine am (L.at (.inl rfl)) λob ho hi=>?_
 obtain⟨R',G⟩:=eV (n:=s.toks+1) R (L.own _ (.inl rfl)) (λo e=>by replace e:=ho▸e;cases e;exact hi) (h':=h') λb o hb e=>M.extBut b o hb e
 have F:aP s.heap (λb=>b=env.locals):=λb o e p=>by subst e;replace p:=ho▸p;cases p;exact hi
 have f:∀y c,env.cells.lookup y=some c->c≠env.locals:=λy c e h=>by refine eA (L.cells y c e) λcv o B N=>Kg hn λo' es ep J U _=>?_;replace B:=h▸B;replace B:=J▸B;cases B;replace N:=U▸N;cases N
 refine q _ R' G ⟨L.kind,L.names,L.glob,L.blt,(aK _ I (λy j v' a b c=>?_)),λy c e=>?_,λy j v' a b c=>?_,L.own,L.apart,L.has⟩
 ·by_cases e:y=x
  ·subst e;replace a:=hx▸a;cases a;have:=iF b;exact rR this (aK u (by simp) (hv.grow G F))
  replace b:=(gb (lX hl a e))▸b;refine PO (C y j v' a b c) λu' d=>?_;have g:=d.1;have r:=d.2;exact(aK u' (by simp [e,g]) (r.grow G F))
 ·exact eA (L.cells y c e) λcv o z N=>⟨cv,o,M.extBut c o (f y c e) z,N⟩
 ·have e:y≠x:=λe=>by subst e;replace c:=hk▸c;cases c
  replace b:=(gb (lX hl a e))▸b;exact dg (L.cel y j v' a b c) λl u' g t k=>PO t λo T=>(ng l u' g ⟨o,M.extBut l o (f y l g) T.1,T.2⟩ (k.grow G F))
def M3(sc:Sc)(env:PySem.Env)(x:Str)(b:Addr):Prop:=(sc.names.lookup x=some .local/\b=env.locals)\/(sc.names.lookup x=some .cell/\env.cells.lookup x=some b)
theorem M3.own(h:M3 sc env x b):jf env b:=h.elim (λh=>.inl h.2) λh=>.inr ⟨x,h.2⟩
theorem gm{E:V8}{Q:W8}(L:Loc sc env h₀ s.heap σ ρ)(R:aU w h₀ σ s)(hx:sc.slots.lookup x=some i)(d:sc.names.lookup x=some .local\/sc.names.lookup x=some .cell)(J:sg sc x i=true)(hv:aG σ s.heap v u)(q:∀s',aU w h₀ σ s'->aA (M3 sc env x) σ s σ s'->Loc sc env h₀ s'.heap σ (set ρ i v)->Q () s'):
  wpAny (model prog w) A (storeName env x u) Q E s:=by
 rcases d with d|d
 ·exact ti L R hx d J hv λs' C G L'=>q s' C (G.weaken λb o ø e=>.inl ⟨d,e⟩) L'
 ·refine jn (Q3.mp (L.has x d)) λc B=>?_;obtain⟨cv,z⟩:=L.cells x c B;refine wpAny_storeName_cell L.kind ((L.kindOf x).trans d) B z λh' l M=>am (L.at (.inr ⟨x,B⟩)) λob ho hi=>?_;obtain⟨C,G⟩:=eV (n:=s.toks) R (L.own _ (.inr ⟨x,B⟩)) (λo e=>by replace e:=ho▸e;cases e;exact hi) (h':=h') λb o hb e=>M.extBut b o hb e;have F:aP s.heap (λb=>b=c):=λb o e p=>by subst e;replace p:=ho▸p;cases p;exact hi
  refine am L.ns λm hn hm=>?_;have U:env.locals≠c:=λh=>by refine am z λo N T=>?_;obtain⟨o',es,ep,Xx,g,_⟩:=hn;replace N:=(Qe h)▸N;replace N:=Xx▸N;cases N;replace T:=g▸T;cases T
  refine q _ C (G.weaken λb o ø e=>.inr ⟨d,e▸B⟩) ⟨L.kind,L.names,L.glob,L.blt,(aK m (hn.sameBut M U) (λy j v' a b k=>?_)),λy t e=>?_,λy j v' a b k=>?_,L.own,L.apart,L.has⟩
  ·have e:y≠x:=λe=>by subst e;replace k:=d▸k;cases k
   replace b:=(gb (lX J a e))▸b;exact am (hm y j v' a b k) λu' f r=>(aK u' f (r.grow G F))
  ·by_cases f:t=c
   ·exact rR f ⟨_,l⟩
   obtain⟨I,x'⟩:=L.cells y t e;exact⟨I,x'.sameBut M f⟩
  by_cases e:y=x
  ·subst e;replace a:=hx▸a;cases a;have:=iF b;subst this;exact(ng c u B l (hv.grow G F))
  replace b:=(gb (lX J a e))▸b;exact dg (L.cel y j v' a b k) λt u' f N r=>(ng t u' f (N.sameBut M (λh=>e (L.apart y x c (sB h f) B))) (r.grow G F))
theorem Aj{E:V8}{Q:V8}(L:Loc sc env h₀ s.heap σ ρ)(h:sc.slots.lookup x=some i)(d:sc.names.lookup x=some .local\/sc.names.lookup x=some .cell)(p:get ρ i=some v)(q:∀u,aG σ s.heap v u->Q u s):wpAny (model prog w) A (loadName env x) Q E s:=by
 refine RD (d) (λd=>?_) λd=>?_
 ·refine am (L.ns) λm f M=>?_;obtain⟨u,e,r⟩:=M x i v h p d;exact wpAny_loadName_local L.kind ((L.kindOf x).trans d) f e (q u r)
 ·exact dg (L.cel x i v h p d) λc u z y r=>wpAny_loadName_cell L.kind ((L.kindOf x).trans d) z y (q u r)
end
end
end
mutual
noncomputable def ky:Bi->Str
 |.len=>"len" |.range=>"range" |.sorted=>"sorted" |.all=>"all" |.str=>"str" |.tuple=>"tuple"
structure Hd where
 tag:Nat
 p:Pos:=⟨0,0,0,0⟩
 c:Const:=default
 n:Str:=default
 k:Nat:=0
 x:Expr:=.Name default ⟨0,0,0,0⟩
 y:Expr:=.Name default ⟨0,0,0,0⟩
 z:Expr:=.Name default ⟨0,0,0,0⟩
 xs:List Expr:=[]
 ox:Option Expr:=none
 oy:Option Expr:=none
 oz:Option Expr:=none
 ks:List (Option Expr):=[]
 ops:List CmpOp:=[]
 op:Operator:=.Add
 uop:UnaryOp:=.Not
 bop:BoolOp:=.And
 kw:List Keyword:=[]
 gs:List Comprehension:=[]
 sc:Scope:=default
noncomputable def ao:Expr->Hd
 |.Constant c k p=>{tag:=1,c:=c,k:=k,p:=p}
 |.Name n p=>{tag:=2,n:=n,p:=p}
 |.Attribute x n p=>{tag:=3,x:=x,n:=n,p:=p}
 |.Subscript x y p=>{tag:=4,x:=x,y:=y,p:=p}
 |.Slice x y z p=>{tag:=5,ox:=x,oy:=y,oz:=z,p:=p}
 |.BinOp x op y p=>{tag:=6,x:=x,y:=y,op:=op,p:=p}
 |.UnaryOp op x p=>{tag:=7,uop:=op,x:=x,p:=p}
 |.Compare x ops xs p=>{tag:=8,x:=x,ops:=ops,xs:=xs,p:=p}
 |.BoolOp op xs p=>{tag:=9,bop:=op,xs:=xs,p:=p}
 |.IfExp x y z p=>{tag:=10,x:=x,y:=y,z:=z,p:=p}
 |.Tuple xs k p=>{tag:=11,xs:=xs,k:=k,p:=p}
 |.List xs p=>{tag:=12,xs:=xs,p:=p}
 |.Dict ks xs p=>{tag:=13,ks:=ks,xs:=xs,p:=p}
 |.Call x xs kw p=>{tag:=14,x:=x,xs:=xs,kw:=kw,p:=p}
 |.ListComp x gs sc p=>{tag:=15,x:=x,gs:=gs,sc:=sc,p:=p}
 |.Starred x p=>{tag:=16,x:=x,p:=p}
 |.Set xs k p=>{tag:=17,xs:=xs,k:=k,p:=p}
 |.SetComp x gs sc p=>{tag:=18,x:=x,gs:=gs,sc:=sc,p:=p}
 |.DictComp x y gs sc p=>{tag:=19,x:=x,y:=y,gs:=gs,sc:=sc,p:=p}
 |.NamedExpr _ _ _=>{tag:=0}
 |.Lambda _ _ _ _=>{tag:=0}
 |.GeneratorExp _ _ _ _=>{tag:=0}
 |.Await _ _=>{tag:=0}
 |.Yield _ _=>{tag:=0}
 |.YieldFrom _ _=>{tag:=0}
 |.FormattedValue _ _ _ _=>{tag:=0}
 |.JoinedStr _ _=>{tag:=0}
noncomputable def OH(e:Expr):List Prop:=
 [True,∃c k p,e=.Constant c k p,∃n p,e=.Name n p,∃x n p,e=.Attribute x n p,∃x y p,e=.Subscript x y p,∃x y z p,e=.Slice x y z p,∃x op y p,e=.BinOp x op y p,∃op x p,e=.UnaryOp op x p,
  ∃x ops xs p,e=.Compare x ops xs p,∃op xs p,e=.BoolOp op xs p,∃x y z p,e=.IfExp x y z p,∃xs k p,e=.Tuple xs k p,∃xs p,e=.List xs p,∃ks xs p,e=.Dict ks xs p,∃x xs kw p,e=.Call x xs kw p,∃x gs sc p,e=.ListComp x gs sc p]
theorem Lq(e:Expr):(OH e).getD (ao e).tag True:=by cases e<;>first|exact(vy _ _ rfl)|exact⟨_,_,_,rfl⟩|exact⟨_,_,_,_,rfl⟩|trivial
theorem bj{k:Nat}(h:((ao e).tag==k)=true):(OH e).getD k True:=sB (Qd.mp h) (Lq e)
noncomputable abbrev bt(k:Nat)(e:Expr):Bool:=(ao e).tag==k
noncomputable def G4(sc:Sc)(x:Str)(i:Nat):Bool:=
 sc.slots.lookup x==some i&&(sc.names.lookup x==some .local||sc.names.lookup x==some .cell)&& !(x==("__debug__":Str))
noncomputable def g9(sc:Sc)(x:Str):Bool:=sc.names.lookup x==some .globalImplicit&& !(x==("__debug__":Str))
noncomputable def cN:Const->Bool|.none=>true|_=>false
noncomputable def cB(b:Bool):Const->Bool|.bool c=>b==c|_=>false
noncomputable def cI(i:Int):Const->Bool|.int c=>i==c|_=>false
noncomputable def cS(i:Str):Const->Bool|.str c=>i==c|_=>false
def K3(v:V)(c:Const):Bool:=v.casesOn (cN c) (λb=>cB b c) (λi=>cI i c) (λs=>cS s c) (λa=>false) (λa=>false) (λa=>false) (λa=>false)
noncomputable def gh(e:Expr):Bool:= !bt 5 e
noncomputable def c0(e:Expr):Bool:= !bt 16 e
noncomputable def qo(e:Expr):Bool:= !bt 17 e
noncomputable def j2(e:Expr):Bool:= !bt 14 e||(bt 2 (ao e).x&& !((ao (ao e).x).n==("super":Str)))
noncomputable def mI{t:Type}(f:t->Bool):List t->Bool
 |[]=>false
 |a::r=>r.isEmpty&&f a
def tQ{t:Type}(f:t->t->Bool):List t->Bool
 |[]=>false
 |a::r=>mI (f a) r
theorem dO{t:Type}{f:t->Bool}{l:List t}(h:mI f l=true):∃a,l=[a]/\f a=true:=by rcases l with _|⟨a,_|⟨b,l⟩⟩<;>first|exact VC h PC|exact(aK _ rfl h)
theorem ik{t:Type}{f:t->t->Bool}{l:List t}(h:tQ f l=true):∃a b,l=[a,b]/\f a b=true:=by
 rcases l with _|⟨a,l⟩
 ·exact VC h PC
 refine PO (dO (l:=l) h) λb c=>?_;obtain⟨rfl,h⟩:=c;exact(rS _ _ rfl h)
noncomputable def tJ:List (Option Expr)->List Expr->Option (List Expr)
 |[],vs=>bif vs.isEmpty then some [] else none
 |k::ks,vs=>k.casesOn none λk=>vs.casesOn none λv vs=>(tJ ks vs).map λr=>k::v::r
noncomputable def isNone:E->Bool|.lit v=>V.nN v|_=>false
noncomputable def lG(f:Expr->Bool)(e:E)(x:Option Expr):Bool:=x.casesOn (isNone e) f
noncomputable def Ey{t:Type}(f:t->Bool)(x:Option t):Bool:=x.casesOn false f
theorem fP{t:Type}{f:t->Bool}{x:Option t}(h:Ey f x=true):∃a,x=some a/\f a=true:=by
 induction x with
 |none=>exact VC h PC
 |some a=>exact(aK a rfl h)
def cA(p:pa)(x:Expr):Option (List (Str×Nat)):=p.casesOn (λi=>bif bt 2 x then some [((ao x).n,i)] else none)
 λi j=>bif bt 11 x&&tQ (λa b=>bt 2 a&&bt 2 b&& !((ao a).n==(ao b).n||i==j)) (ao x).xs then some [((ao ((ao x).xs.getD 0 x)).n,i),((ao ((ao x).xs.getD 1 x)).n,j)] else none
theorem mA{t:Type}{a c:t}(h:(bif b then some a else none)=some c):b=true/\a=c:=by
 induction b with
 |false=>cases h
 |true=>cases h;exact⟨rfl,rfl⟩
theorem uM{x:Expr}(h:cA (.one i) x=some ps):∃n p,x=.Name n p/\ps=[(n,i)]:=by refine dQ (mA h) λh' e=>i5 (bj h') λn p A=>?_;subst A;exact(rS n p rfl e.symm)
theorem pg{x:Expr}(h:cA (.two i j) x=some ps):∃n m p q k r,x=.Tuple [.Name n p,.Name m q] k r/\ps=[(n,i),(m,j)]/\n≠m/\i≠j:=by refine dQ (mA h) λh e=>?_;obtain⟨h,d⟩:=vB h;refine k6 (bj h) λxs k r o=>?_;subst o;refine eA (ik (l:=xs) d) λa b M d=>?_;subst M;obtain⟨d,N⟩:=vB d;refine i5 (bj (vB d).1) λn p z=>?_;subst z;refine i5 (bj (vB d).2) λm q s=>?_;subst s;have N:(!(n==m||i==j))=true:=N;rw[QD,RQ,RB,RB] at N;exact(OP n m p q k r rfl e.symm N.1 N.2)
noncomputable def ot(sc:Sc)(names:List (Str×NameKind)):List (Str×NameKind):=
 names.map λ(n,k)=>if(k==.free&&sc.names.lookup n==some .cell) then(n,.cell) else(n,k)
noncomputable def gS(sc:Sc)(scope:Scope)(ps:List (Str×Nat)):Sc:=⟨ot sc scope.names,ps++sc.slots⟩
noncomputable def gL(sc:Sc)(scope:Scope)(ps:List (Str×Nat)):Bool:=
 scope.kind==.function&&scope.names.all (λp=>p.2 !=.cell&&(p.2 !=.local||scope.names.lookup p.1==some .local)&&
  (p.2 !=.free||sc.names.lookup p.1==some .cell)&&(p.2 !=.local||(ps.lookup p.1).isSome||sc.slots.lookup p.1==none))&&
 ps.all λp=>scope.names.lookup p.1==some .local&&sg (gS sc scope ps) p.1 p.2&&(gS sc scope ps).slots.lookup p.1==some p.2
end
section
variable(G:W7)(N:V7)
mutual
noncomputable def aE:E->Sc->Expr->Bool
 |.lit v,_,x=>bt 1 x&&K3 v (ao x).c
 |.var i,sc,x=>bt 2 x&&G4 sc (ao x).n i
 |.glob y v,sc,x=>bt 2 x&&((ao x).n==y&&g9 sc (ao x).n&&decide (G (ao x).n=some v))
 |.attr a n,sc,x=>bt 3 x&&((ao x).n==n&&aE a sc (ao x).x&&j2 (ao x).x)
 |.item a i,sc,x=>bt 4 x&&(aE a sc (ao x).x&&aE i sc (ao x).y&&gh (ao x).y)
 |.slice a lo hi st,sc,x=>bt 4 x&&(bt 5 (ao x).y&&(aE a sc (ao x).x&&lG (aE lo sc) lo (ao (ao x).y).ox&&lG (aE hi sc) hi (ao (ao x).y).oy&&lG (aE st sc) st (ao (ao x).y).oz))
 |.bin op a b,sc,x=>bt 6 x&&((ao x).op==op&&aE a sc (ao x).x&&aE b sc (ao x).y)
 |.neg a,sc,x=>bt 7 x&&((ao x).uop==.USub&&aE a sc (ao x).x)
 |.not a,sc,x=>bt 7 x&&((ao x).uop==.Not&&aE a sc (ao x).x)
 |.cmp op a b,sc,x=>bt 8 x&&(aE a sc (ao x).x&&mI (λo=>o==op) (ao x).ops&&mI (λr=>aE b sc r&& !(behindInMarks op r)) (ao x).xs)
 |.cmp2 op k a b c,sc,x=>bt 8 x&&(aE a sc (ao x).x&&tQ (λo d=>o==op&&d==k) (ao x).ops&&tQ (λr j=>aE b sc r&&aE c sc j&& !(behindInMarks k j)) (ao x).xs)
 |.and es,sc,x=>bt 9 x&&((ao x).bop==.And&&cV es sc (ao x).xs)
 |.or es,sc,x=>bt 9 x&&((ao x).bop==.Or&&cV es sc (ao x).xs)
 |.ite c a b,sc,x=>bt 10 x&&(aE c sc (ao x).x&&aE a sc (ao x).y&&aE b sc (ao x).z)
 |.tup es,sc,x=>bt 11 x&&(cV es sc (ao x).xs&&Nat.ble (ao x).xs.length 4096)
 |.list es,sc,x=>bt 12 x&&(cV es sc (ao x).xs&&Nat.ble (ao x).xs.length 4096)
 |.dict es,sc,x=>bt 13 x&&(Ey (cV es sc) (tJ (ao x).ks (ao x).xs)&&Nat.ble (ao x).ks.length 15)
 |.call f y es,sc,x=>bt 14 x&&(bt 2 (ao x).x&&((ao (ao x).x).n==y&&g9 sc (ao (ao x).x).n&&N (ao (ao x).x).n==some f&&cV es sc (ao x).xs&&(ao x).kw.isEmpty))
 |.meth a n es,sc,x=>bt 14 x&&(bt 3 (ao x).x&&((ao (ao x).x).n==n&&aE a sc (ao (ao x).x).x&&j2 (ao (ao x).x).x&&cV es sc (ao x).xs&&((ao (ao x).x).p.endLine==(ao x).p.line)&&Nat.ble (ao x).xs.length 14&&(ao x).kw.isEmpty))
 |.bi b es,sc,x=>bt 14 x&&(bt 2 (ao x).x&&((ao (ao x).x).n==ky b&&g9 sc (ao (ao x).x).n&&cV es sc (ao x).xs&&(ao x).kw.isEmpty))
 |.comp J p L u,sc,x=>bt 15 x&&mI (λg=>Ey (λps=>aE L sc g.iter&&qo g.iter&&g.is_async==0&&gL sc (ao x).sc ps&&aE J (gS sc (ao x).sc ps) (ao x).x&&cV u (gS sc (ao x).sc ps) g.ifs) (cA p g.target)) (ao x).gs
 |.dead,_,_=>true
 |.nil,_,_=>false
 |.cons _ _,_,_=>false
noncomputable def cV:E->Sc->List Expr->Bool
 |.nil,_,xs=>xs.isEmpty
 |.cons a r,sc,xs=>xs.casesOn false λx xs=>aE a sc x&&c0 x&&cV r sc xs
 |_,_,_=>false
end
end
noncomputable def xg(M:Model)(A:Around)(E:V8):List (Sem Value)->(X9->Shared->Prop)->Shared->Prop
 |[],Q,s=>Q [] s
 |x::r,Q,s=>wpAny M A x (λv s'=>xg M A E r (λvs=>Q (v::vs)) s') E s
section
variable{M:Model}{A:Around}{E:V8}{s:Shared}
theorem tz:∀{xs:List (Sem Value)}{Q u:X9->Shared->Prop}{s:Shared},(∀vs s,vs.length=xs.length->Q vs s->u vs s)->xg M A E xs Q s->xg M A E xs u s:=by
 intro l;induction l with
 |nil=>intro _ _ _ h q;exact h _ _ rfl q
 |cons _ _ ih=>intro _ _ _ h q;exact Qj q (λv a q=>ih (λvs s e=>h (v::vs) s (by simp [e])) q) λa a x=>x
theorem mN:∀{xs:List (Sem Value)}{Q:X9->Shared->Prop}{s:Shared},xg M A E xs Q s->wpAny M A (spliced (xs.map (false, ·))) Q E s:=by
 intro l;induction l with
 |nil=>intro _ _ q;exact Calls.spliced_nil q
 |cons _ _ ih=>intro _ _ q;exact Calls.spliced_cons (Qj q (λa a q=>ih q) λa a x=>x)
theorem fe{env:PySem.Env}:∀{xs:List Expr},xs.all c0=true->backTo pos (starEach xs env)=(evalEach xs env).map (false, ·):=by
 intro l;induction l with
 |nil=>intro _;exact rfl
 |cons x xs ih=>
  intro h;simp only[List.all_cons,QW] at h;have:starEach (x::xs) env=(false,eval x env)::starEach xs env:=by cases x<;>first|rfl|(exact VC h.1 PC)
  refine rR this (?_:(false,eval x env)::backTo pos (starEach xs env)=(false,eval x env)::(evalEach xs env).map (false, ·));exact rR (ih h.2) rfl
theorem qV{G:W7}{N:V7}{e:Internal.E}(h:cV G N e sc xs=true):(e=.nil/\xs=[])\/∃a r x d,e=.cons a r/\xs=x::d/\aE G N a sc x=true/\c0 x=true/\cV G N r sc d=true:=by
 cases e<;>first|exact VC h PC|skip
 ·exact .inl ⟨rfl,Q4.mp h⟩
 induction xs with
 |nil=>exact VC h PC
 |cons x xs=>exact .inr (N4 _ _ _ _ rfl rfl ((vB (vB h).1).1) ((vB (vB h).1).2) ((vB h).2))
theorem jZ{G:W7}{N:V7}{sc:Sc}:∀{xs:List Expr}{e:Internal.E},cV G N e sc xs=true->xs.all c0=true:=by
 intro l;induction l with
 |nil=>intro _ _;exact rfl
 |cons x xs ih=>
  intro e h;obtain⟨_,h⟩|⟨a,r,B,f,_,h,_,C,d⟩:=qV h
  ·cases h
  cases h;exact P7.mpr ⟨C,ih d⟩
end
theorem kg{t:Type}[BEq t][LawfulBEq t]{a b:t}(P:t->Prop)(h:(a==b)=true)(k:P b):P a:=Qd.mp h▸k
theorem nq{t:Type}{l:List t}(P:List t->Prop)(h:l.isEmpty=true)(k:P []):P l:=Q4.mp h▸k
section
variable{G:W7}{N:V7}{sc:Sc}{a b c es i lo hi st:E}{n:Str}{op Y:CmpOp}{P:Expr->Prop}{x:Expr}
mutual
theorem Ko(K:∀o p,aE G N a sc o=true->j2 o=true->P (.Attribute o n p))(h:aE G N (.attr a n) sc x=true):P x:=by refine k6 (bj (vB h).1) λo m p d=>?_;subst d;exact kg (λm=>P (.Attribute o m p)) (vB (vB (vB h).2).1).1 (K o p (vB (vB (vB h).2).1).2 (vB (vB h).2).2)
theorem Kn(K:∀o k p,aE G N a sc o=true->aE G N i sc k=true->gh k=true->P (.Subscript o k p))(h:aE G N (.item a i) sc x=true):P x:=by refine k6 (bj (vB h).1) λo k p l=>?_;subst l;exact K o k p (vB (vB (vB h).2).1).1 (vB (vB (vB h).2).1).2 (vB (vB h).2).2
theorem Gb(K:∀o l u t q p,aE G N a sc o=true->lG (aE G N lo sc) lo l=true->lG (aE G N hi sc) hi u=true->lG (aE G N st sc) st t=true->P (.Subscript o (.Slice l u t q) p))(h:aE G N (.slice a lo hi st) sc x=true):P x:=by refine k6 (bj (vB h).1) λo k p y=>?_;subst y;have h:=vB (vB h).2;refine vo (bj h.1) λl u t q j=>?_;subst j;exact K o l u t q p (vB (vB (vB h.2).1).1).1 (vB (vB (vB h.2).1).1).2 (vB (vB h.2).1).2 (vB h.2).2
theorem Lj{op:Operator}(K:∀l r p,aE G N a sc l=true->aE G N b sc r=true->P (.BinOp l op r p))(h:aE G N (.bin op a b) sc x=true):P x:=by refine vo (bj (vB h).1) λl o r p q=>?_;subst q;exact kg (λo=>P (.BinOp l o r p)) (vB (vB (vB h).2).1).1 (K l r p (vB (vB (vB h).2).1).2 (vB (vB h).2).2)
theorem Hq(K:∀y p,aE G N a sc y=true->P (.UnaryOp .USub y p))(h:aE G N (.neg a) sc x=true):P x:=by refine k6 (bj (vB h).1) λo y p w=>?_;subst w;exact kg (λo=>P (.UnaryOp o y p)) (vB (vB h).2).1 (K y p (vB (vB h).2).2)
theorem Hh(K:∀y p,aE G N a sc y=true->P (.UnaryOp .Not y p))(h:aE G N (.not a) sc x=true):P x:=by refine k6 (bj (vB h).1) λo y p B=>?_;subst B;exact kg (λo=>P (.UnaryOp o y p)) (vB (vB h).2).1 (K y p (vB (vB h).2).2)
theorem Hw(K:∀l r p,aE G N a sc l=true->aE G N b sc r=true->behindInMarks op r=false->P (.Compare l [op] [r] p))(h:aE G N (.cmp op a b) sc x=true):P x:=by refine vo (bj (vB h).1) λl ops rs p L=>?_;subst L;exact am (dO (l:=rs) (vB (vB h).2).2) λr s Q=>rR s (am (dO (l:=ops) (vB (vB (vB h).2).1).2) λo s d=>rR s (kg (λo=>P (.Compare l [o] [r] p)) d<|K l r p (vB (vB (vB h).2).1).1 (vB Q).1 ((QD _).mp (vB Q).2)))
theorem B0(K:∀l r t p,aE G N a sc l=true->aE G N b sc r=true->aE G N c sc t=true->behindInMarks Y t=false->P (.Compare l [op,Y] [r,t] p))(h:aE G N (.cmp2 op Y a b c) sc x=true):P x:=by refine vo (bj (vB h).1) λl ops rs p I=>?_;subst I;exact eA (ik (l:=rs) (vB (vB h).2).2) λr t d Q=>rR d (eA (ik (l:=ops) (vB (vB (vB h).2).1).2) λo f T e=>rR T (kg (λo=>P (.Compare l [o,f] [r,t] p)) (vB e).1<|kg (λo=>P (.Compare l [op,o] [r,t] p)) (vB e).2<|K l r t p (vB (vB (vB h).2).1).1 (vB (vB Q).1).1 (vB (vB Q).1).2 ((QD _).mp (vB Q).2)))
theorem GQ(K:∀x y z p,aE G N c sc x=true->aE G N a sc y=true->aE G N b sc z=true->P (.IfExp x y z p))(h:aE G N (.ite c a b) sc x=true):P x:=by refine vo (bj (vB h).1) λx y z p A=>?_;subst A;exact K x y z p (vB (vB (vB h).2).1).1 (vB (vB (vB h).2).1).2 (vB (vB h).2).2
theorem GO(K:∀xs p,cV G N es sc xs=true->P (.BoolOp .And xs p))(h:aE G N (.and es) sc x=true):P x:=by refine k6 (bj (vB h).1) λo xs p j=>?_;subst j;exact kg (λo=>P (.BoolOp o xs p)) (vB (vB h).2).1 (K xs p (vB (vB h).2).2)
theorem K6(K:∀xs p,cV G N es sc xs=true->P (.BoolOp .Or xs p))(h:aE G N (.or es) sc x=true):P x:=by refine k6 (bj (vB h).1) λo xs p w=>?_;subst w;exact kg (λo=>P (.BoolOp o xs p)) (vB (vB h).2).1 (K xs p (vB (vB h).2).2)
theorem DA{a b c d e f:Bool}{P:Prop}(k:a=true->b=true->c=true->d=true->e=true->f=true->P)(h:(a&&b&&c&&d&&e&&f)=true):P:=
 have C:=vB h;have g:=vB C.1;have Q:=vB g.1;have o:=vB Q.1;k (vB o.1).1 (vB o.1).2 o.2 Q.2 g.2 C.2
theorem Ni{a b c d e f g:Bool}{P:Prop}(k:a=true->b=true->c=true->d=true->e=true->f=true->g=true->P)(h:(a&&b&&c&&d&&e&&f&&g)=true):P:=
 DA (λC j Q o l p=>k C j Q o l p (vB h).2) (vB h).1
theorem JN(K:∀o q xs p,aE G N a sc o=true->j2 o=true->cV G N es sc xs=true->(q.endLine==p.line)=true->xs.length<=14->P (.Call (.Attribute o n q) xs [] p))(h:aE G N (.meth a n es) sc x=true):P x:=by refine vo (bj (vB h).1) λo xs kw p v=>?_;subst v;refine k6 (bj (vB (vB h).2).1) λo m q r=>?_;subst r;exact Ni (λC d Q s j t e=>kg (λm=>P (.Call (.Attribute o m q) xs kw p)) C<|nq (λkw=>P (.Call (.Attribute o n q) xs kw p)) e<|K o q xs p d Q s j (P6 t)) (vB (vB h).2).2
theorem Fg{a b c d e:Bool}{P:Prop}(k:a=true->b=true->c=true->d=true->e=true->P)(h:(a&&b&&c&&d&&e)=true):P:=
 DA (a:=true) (λf=>k) (show(true&&a&&b&&c&&d&&e)=true by exact h)
theorem J6{f:Addr}(K:∀n q xs p,g9 sc n=true->N n=some f->cV G N es sc xs=true->P (.Call (.Name n q) xs [] p))(h:aE G N (.call f n es) sc x=true):P x:=by refine vo (bj (vB h).1) λo xs kw p C=>?_;subst C;refine i5 (bj (vB (vB h).2).1) λn q y=>?_;subst y;exact Fg (λI d Q r j=>nq (λkw=>P (.Call (.Name n q) xs kw p)) j<|K n q xs p d (Qd.mp Q) r) (vB (vB h).2).2
theorem Ol{b:Bi}(K:∀q xs p,g9 sc (ky b)=true->cV G N es sc xs=true->P (.Call (.Name (ky b) q) xs [] p))(h:aE G N (.bi b es) sc x=true):P x:=by refine vo (bj (vB h).1) λo xs kw p j=>?_;subst j;refine i5 (bj (vB (vB h).2).1) λn q e=>?_;subst e;exact kg (λm=>g9 sc m=true->P (.Call (.Name m q) xs kw p)) (vB (vB (vB (vB (vB h).2).2).1).1).1 (nq (λkw=>g9 sc (ky b)=true->P (.Call (.Name (ky b) q) xs kw p)) (vB (vB (vB h).2).2).2 λg=>K q xs p g (vB (vB (vB (vB h).2).2).1).2) (vB (vB (vB (vB (vB h).2).2).1).1).2
theorem Mw(K:∀xs k p,cV G N es sc xs=true->xs.length<=4096->P (.Tuple xs k p))(h:aE G N (.tup es) sc x=true):P x:=by refine k6 (bj (vB h).1) λxs k p Q=>?_;subst Q;exact K xs k p (vB (vB h).2).1 (P6 (vB (vB h).2).2)
theorem J1(K:∀xs p,cV G N es sc xs=true->xs.length<=4096->P (.List xs p))(h:aE G N (.list es) sc x=true):P x:=by refine i5 (bj (vB h).1) λxs p v=>?_;subst v;exact K xs p (vB (vB h).2).1 (P6 (vB (vB h).2).2)
theorem uU{P:List Expr->Prop}(K:∀x xs,aE G N a sc x=true->c0 x=true->cV G N r sc xs=true->P (x::xs))(h:cV G N (.cons a r) sc xs=true):P xs:=by
 induction xs with
 |nil=>exact VC h PC
 |cons x xs=>exact K x xs (vB (vB h).1).1 (vB (vB h).1).2 (vB h).2
end
end
mutual
structure Ctx(w:World)(K:Frag)(h₀:Heap)(T:nc)(G:W7)(N:V7):Prop where
 tab:wi w K h₀ T
 inn:K.In h₀
 one:(h₀.get? 1).isSome=true
 ns:∃mg mb,h₀.Ns mainGlobals mg/\h₀.Ns builtinsNs mb/\
  (∀x v,G x=some v->∃u,mg x=some u/\∀(σ:Hp)(s:Shared),aU w h₀ σ s->aG σ s.heap v u)/\
  (∀x f,N x=some f->mg x=some (.ref f)/\keepIn K (.ref f)=true)/\
  (∀b,mg (ky b)=none/\mb (ky b)=some (AH b))
def Good(d:Nat)(A:Around):Prop:=A.handled=none/\A.units+10*d+100<cLine/\A.depth+d<=recursionLimit
def lW(prog:Program)(w:World)(h₀:Heap)(d:Nat)(C:cj):Prop:=
 ∀{A:Around}{f:Addr}{vs:Z7}{us:X9}{σ:Hp}{s:Shared}{Q:V->Hp->Prop},Good d A->aU w h₀ σ s->an (aG σ s.heap) vs us->C f vs σ Q->
  wpAny (model prog w) A (call (.ref f) us) (aQ w h₀ σ s Q) bE s
def fj(w:World)(h₀:Heap)(σ:Hp)(s:Shared)(Q:Bool->Hp->Prop)(b:Bool)(s':Shared):Prop:=
 ∃o,aU w h₀ o s'/\aA aS σ s o s'/\Q b o
def uo(w:World)(h₀:Heap)(σ:Hp)(s:Shared)(Q:Z7->Hp->Prop)(vs:X9)(s':Shared):Prop:=
 ∃us o,aU w h₀ o s'/\aA aS σ s o s'/\an (aG o s'.heap) us vs/\Q us o
def MY(P:KV)(Q:KB):=∀v σ,P v σ->∃t,Tr σ v t/\Q t σ
theorem iK{A B:Prop}(h:qh A B σ x):∃t,Tr σ x t/\(t=true->A)/\(t=false->B):=by unfold qh at h;exact h
theorem fj.back{w h₀ σ s ma s' Q b s''}(G:aA aS σ s ma s')(r:fj w h₀ ma s' Q b s''):fj w h₀ σ s Q b s'':=
 nR r λC R g q=>oW C R (G.trans g) q
theorem fj.go{w h₀ σ s Q M A E}{P:Bool->Shared->Prop}(h:wpAny M A x (fj w h₀ σ s Q) bE s)(k:∀v s₁ Y,aU w h₀ Y s₁->aA aS σ s Y s₁->Q v Y->P v s₁):wpAny M A x P E s:=
 Qj h (λa a z=>z.elim λo z=>k _ _ o z.1 z.2.1 z.2.2) λa a x=>x.elim
theorem fj.backs{w h₀ σ s ma s' Q M A}(G:aA aS σ s ma s')(h:wpAny M A x (fj w h₀ ma s' Q) bE s'):wpAny M A x (fj w h₀ σ s Q) bE s':=Qj h (λa a z=>z.back G) λa a x=>x
noncomputable def yH(env:PySem.Env):Expr->Bool->Sem (ForInStep Bool):=λc r=>if r=true then do let x<-isTrue c env (eval c env);pure (ForInStep.yield x) else pure (ForInStep.yield r)
noncomputable def j3(x:Expr):Bool:= !(bt 8 x||bt 9 x||bt 10 x||(bt 7 x&&(ao x).uop==.Not))
set_option tactic.hygienic true in
theorem isTrue_plain(h:j3 x=true):isTrue x env (eval x env)=(do let v<-eval x env;standAt x.pos;holding [v] (PySem.truthy v)):=by
 cases x<;>first|rfl|(exact VC h PC)|skip
 rename_i op x p
 induction op<;>first|rfl|(exact VC h PC)
end
section
variable(prog:Program)(w:World)(h₀:Heap)(T:nc)(G:W7)(N:V7)(C:cj)(d:Nat)
structure Ok(e:Internal.E):Prop where
 ev:∀{sc:Sc}{x:Expr}{env:PySem.Env}{ρ:Z8}{σ:Hp}{s:Shared}{Q:V->Hp->Prop}{A:Around},Good d A->Loc sc env h₀ s.heap σ ρ->aU w h₀ σ s->aE G N e sc x=true->cP T C e ρ σ Q->
  wpAny (model prog w) A (eval x env) (aQ w h₀ σ s Q) bE s
 tr:∀{sc:Sc}{x:Expr}{env:PySem.Env}{ρ:Z8}{σ:Hp}{s:Shared}{P:KV}{Q:Bool->Hp->Prop}{A:Around},Good d A->Loc sc env h₀ s.heap σ ρ->aU w h₀ σ s->aE G N e sc x=true->cP T C e ρ σ P->MY P Q->
  wpAny (model prog w) A (isTrue x env (eval x env)) (fj w h₀ σ s Q) bE s
 ls:∀{sc:Sc}{xs:List Expr}{env:PySem.Env}{ρ:Z8}{σ:Hp}{s:Shared}{Q:Z7->Hp->Prop}{A:Around},Good d A->Loc sc env h₀ s.heap σ ρ->aU w h₀ σ s->cV G N e sc xs=true->Bu T C e ρ σ Q->
  xg (model prog w) A bE (evalEach xs env) (uo w h₀ σ s Q) s
 bo:∀{op:BoolOp}{stop:Bool}{sc:Sc}{xs:List Expr}{env:PySem.Env}{pos:Pos}{ρ:Z8}{σ:Hp}{s:Shared}{Q:V->Hp->Prop}{A:Around},(op=.And/\stop=false\/op=.Or/\stop=true)->Good d A->Loc sc env h₀ s.heap σ ρ->aU w h₀ σ s->cV G N e sc xs=true->Bk T C e stop ρ σ Q->
  wpAny (model prog w) A (boolOp pos op (evalEach xs env)) (aQ w h₀ σ s Q) bE s
 al:∀{op:BoolOp}{stop:Bool}{sc:Sc}{xs:List Expr}{env:PySem.Env}{ρ:Z8}{σ:Hp}{s:Shared}{P:KV}{Q:Bool->Hp->Prop}{A:Around},(op=.And/\stop=false\/op=.Or/\stop=true)->Good d A->Loc sc env h₀ s.heap σ ρ->aU w h₀ σ s->cV G N e sc xs=true->Bk T C e stop ρ σ P->MY P Q->
  wpAny (model prog w) A (allTrue op xs env) (fj w h₀ σ s Q) bE s
 ks:∀{sc:Sc}{xs:List Expr}{env:PySem.Env}{ρ:Z8}{σ:Hp}{s:Shared}{Q:Bool->Hp->Prop}{A:Around},Good d A->Loc sc env h₀ s.heap σ ρ->aU w h₀ σ s->cV G N e sc xs=true->Bv T C e ρ σ Q->
  wpAny (model prog w) A (forIn xs true (yH env)) (fj w h₀ σ s Q) bE s
end
section
variable{prog:Program}{T:nc}{G:W7}{N:V7}{d:Nat}{K:Frag}
section
variable{w:World}{h₀:Heap}{C:cj}
mutual
theorem yi{Q:Bool->Hp->Prop}(R:aU w h₀ σ s)(r:aG σ s.heap v u)(q:∃t,Tr σ v t/\Q t σ):wpAny (model prog w) A (PySem.truthy u) (fj w h₀ σ s Q) bE s:=am (q) λb Y J=>nQ R r Y λn=>⟨σ,R.toks,aA.refl.toks,J⟩
theorem zc{x:Expr}{env:PySem.Env}{σ:Hp}{s:Shared}{P:KV}{Q:Bool->Hp->Prop}{A:Around}(i:j3 x=true)(h:wpAny (model prog w) A (eval x env) (aQ w h₀ σ s P) bE s)(I:MY P Q):
  wpAny (model prog w) A (isTrue x env (eval x env)) (fj w h₀ σ s Q) bE s:=rR (isTrue_plain i) (PN (Qj h (λv s' o=>oU (o) λu p y g n B=>PN (Q7 (Qr (Qj (yi y n (I _ _ B)) (λb j z=>z.back g) λa a x=>x)))) λa a x=>x))
abbrev I9(prog:Program)(w:World)(h₀:Heap)(T:nc)(G:W7)(N:V7)(C:cj)(d:Nat)(e:Internal.E):Prop:=∀{sc:Sc}{x:Expr}{env:PySem.Env}{ρ:Z8}{σ:Hp}{s:Shared}{Q:V->Hp->Prop}{A:Around},Good d A->Loc sc env h₀ s.heap σ ρ->aU w h₀ σ s->aE G N e sc x=true->cP T C e ρ σ Q->
   wpAny (model prog w) A (eval x env) (aQ w h₀ σ s Q) bE s
abbrev NJ(prog:Program)(w:World)(h₀:Heap)(T:nc)(G:W7)(N:V7)(C:cj)(d:Nat)(e:Internal.E):Prop:=∀{sc:Sc}{x:Expr}{env:PySem.Env}{ρ:Z8}{σ:Hp}{s:Shared}{P:KV}{Q:Bool->Hp->Prop}{A:Around},Good d A->Loc sc env h₀ s.heap σ ρ->aU w h₀ σ s->aE G N e sc x=true->cP T C e ρ σ P->MY P Q->
   wpAny (model prog w) A (isTrue x env (eval x env)) (fj w h₀ σ s Q) bE s
theorem Ok.test(s:I9 prog w h₀ T G N C d e)(z:NJ prog w h₀ T G N C d e)(r:∀sc xs,cV G N e sc xs=false):Ok prog w h₀ T G N C d e where
 ev:=s
 tr:=z
 ls:=λa a a h=>VC ((r _ _).symm.trans h) PC
 bo:=λa a a a h=>VC ((r _ _).symm.trans h) PC
 al:=λa a a a h=>VC ((r _ _).symm.trans h) PC
 ks:=λa a a h=>VC ((r _ _).symm.trans h) PC
theorem CN(h:bt k x=true)(c:(k==7||k==8||k==9||k==10)=false):j3 x=true:=by simp only[RQ] at c;simp only[j3,bt,(Qd.mp h:(ao x).tag=k),c.1.1.1,c.1.1.2,c.1.2,c.2,Rz,SA,Bool.not_false]
theorem Ok.simple(k:Nat)(r:I9 prog w h₀ T G N C d e)(v:∀sc x,aE G N e sc x=true->bt k x=true)(c:(k==7||k==8||k==9||k==10)=false)(s:∀sc xs,cV G N e sc xs=false):Ok prog w h₀ T G N C d e:=
 .test r (λg L R h q A=>zc (CN (v _ _ h) c) (r g L R h q) A) s
theorem Fd:Ok prog w h₀ T G N C d .dead:=.test (λa a a a q=>False.elim q) (λa a a a q=>False.elim q) λa a=>rfl
theorem HY(v:V):Ok prog w h₀ T G N C d (.lit v):=.simple 1 (λ{sc x env ρ σ s Q A} g L R h q=>by
 refine dQ (vB h) λht h=>k6 (bj ht) λc k p l=>?_;subst l;cases v<;>first|exact VC h PC|(induction c<;>first|exact VC h PC|skip)
 ·exact Qa (aQ.val' R fg q)
 ·exact(Qe (Qd.mp h))▸(Qa (aQ.val' R jL q))
 ·exact sB (Qd.mp h) (wpAny_Constant_int (aQ.val R bD q))
 exact(Qe (Qd.mp h))▸(Calls.Constant_str (aQ.val R gQ q))) (λa a h=>(vB h).1) rfl λa a=>rfl
theorem JA(i:Nat):Ok prog w h₀ T G N C d (.var i):=.simple 2 (λ{sc x env ρ σ s Q A} g L R h q=>by refine dQ (vB h) λht h=>i5 (bj ht) λn p t=>?_;subst t;obtain⟨j,U⟩:=vB h;exact dQ (vB j) λI f=>am (zy q) λv e q=>wpAny_Name (Aj L (Qd.mp I) ((Qw.mp f).imp Qd.mp Qd.mp) e λu r=>aQ.val' R r q) ((QD _).mp U)) (λa a h=>(vB h).1) rfl λa a=>rfl
theorem mH(h:g9 sc n=true):sc.names.lookup n=some .globalImplicit/\(n==("__debug__":Str))=false:=⟨Qd.mp (vB h).1,(QD _).mp (vB h).2⟩
theorem Loc.global{E:V8}{mg:Str->X8}{Q:V8}(L:Loc sc env h₀ s.heap σ ρ)(R:aU w h₀ σ s)(U:h₀.Ns mainGlobals mg)(h:g9 sc n=true)(e:mg n=some v)(q:Q v s):wpAny (model prog w) A (eval (.Name n pos) env) Q E s:=
 T7 L.kind ((L.kindOf n).trans (mH h).1) (Calls.loadGlobal_global (mg:=mg) (L.glob▸U.keeps R.oldGet) e q) (mH h).2
theorem Loc.builtin{E:V8}{mg mb:Str->X8}{Q:V8}(L:Loc sc env h₀ s.heap σ ρ)(R:aU w h₀ σ s)(U:h₀.Ns mainGlobals mg)(f:h₀.Ns builtinsNs mb)(h:g9 sc n=true)(e:mg n=none)(b:mb n=some v)(q:Q v s):wpAny (model prog w) A (eval (.Name n pos) env) Q E s:=
 T7 L.kind ((L.kindOf n).trans (mH h).1) (Calls.loadGlobal_builtin (mg:=mg) (mb:=mb) (L.glob▸U.keeps R.oldGet) e (L.blt▸f.keeps R.oldGet) b q) (mH h).2
theorem Ft(X:Ctx w K h₀ T G N)(y:Str)(v:V):Ok prog w h₀ T G N C d (.glob y v):=.simple 2 (λ{sc x env ρ σ s Q A} g L R h q=>by have k:=vB h;have h:=k.2;refine i5 (bj k.1) λn p e=>?_;subst e;have I:=vB h;exact oU (X.ns) λmg mb c f j _=>am (j _ _ (P9 I.2)) λu t U=>L.global R c (vB I.1).2 t (aQ.val' R (U σ s R) q)) (λa a h=>(vB h).1) rfl λa a=>rfl
set_option tactic.hygienic true in
theorem pF(h:j2 o=true):attributeBase o n env t=t:=by
 cases o<;>first|rfl|skip
 rename_i f xs ks pos
 refine dQ (vB (h:(bt 2 f&& !((ao f).n==("super":Str)))=true)) λI e=>i5 (bj I) λi p k=>?_;subst k
 have h':(i !=("super":Str))=true:=e
 cases xs<;>induction ks<;>first|rfl|skip
 unfold attributeBase
 dsimp only
 refine(Qe (h'))▸?_
 rfl
theorem Fw(X:Ctx w K h₀ T G N)(n:Str)(z:Ok prog w h₀ T G N C d a):Ok prog w h₀ T G N C d (.attr a n):=.simple 3 (λ{sc x env ρ σ s Q A} g L R h q=>by apply Ko _ h;intro o pos I i;show wpAny (model prog w) A (attributeBase o n env (eval o env)>>=_) _ _ s;refine rR (pF (o:=o) i) (PN (aQ.go (z.ev g L R I q) λv s' u t m p r B=>?_));unfold kE at B;obtain⟨b,c,dx,M,y,rfl,e,Yx,ey,B⟩:=B;exact rR r.ref_inv (PN (Q7 (PN (Qr (pX X.tab (X.inn.keeps m.oldGet) m e Yx ey λj J U=>PN (UY (Qa ((aQ.val m J B).back p))))))))) (λf f h=>(vB h).1) rfl λf f=>rfl
theorem Bj(h:gh k=true):subscripted k false v kv=operate [v,kv] (getItem v kv):=by cases k<;>first|rfl|(exact VC h PC)
theorem wo{s:Shared}{v u:Value}{id:String}{P:V8}(Y:s.TypeIs v Tn)(y:typeLookup (.type Tn) "__getitem__" =pure (some (.builtin id)))(hs:subscripted k false v u=operate vs (getItem v u))(h:wpAny (model prog w) A (getItem v u) P bE s):wpAny (model prog w) A (subscriptTail value k v u) P bE s:=by
 refine PN (PN (S9 Y y ?_))
 have U:wpAny (model prog w) A (subscripted k false v u) (λr J=>wpAny (model prog w) A (letTemporaryGo value v r>>=λa=>pure r) P bE J) bE s:=by exact rR hs (UO (Qj h (λr J t=>PN (UY (Qa t))) λa a x=>x))
 first
  |exact Qa (PN U)
  |exact PN (Qa (PN U))
  |exact PN U
theorem d9(g:Good d A)(c:k<=100):A.units+k<cLine:=PJ (Qu (PM _ _) c) g.2.1
theorem EP{a i:Internal.E}(ha:Ok prog w h₀ T G N C d a)(hi:Ok prog w h₀ T G N C d i):Ok prog w h₀ T G N C d (.item a i):=.simple 4 (λ{sc x env ρ σ s Q A} g L R h q=>by apply Kn _ h;intro o k pos m t h2;refine Subscript_ (aQ.go (ha.ev g L R m q) λv s₁ u j c U r₁ e=>aQ.go (hi.ev g (L.grow U) c t e) λkv p ku l r z r₂ I=>?_);unfold dS at I;refine am (I) λy J B=>?_;have Y:=qd (prog:=prog) (A:=A) (K:=aQ w h₀ σ s Q) (d9 g dD) r (r₁.grow z aP.none) r₂ J λu' r' n=>((aQ.val r r' B).back z).back U;exact eA (Y.1) λT' id b M=>wo b M (Bj h2) Y.2) (λf f h=>(vB h).1) rfl λf f=>rfl
theorem Ja(op:Operator)(B:Ok prog w h₀ T G N C d a)(f:Ok prog w h₀ T G N C d b):Ok prog w h₀ T G N C d (.bin op a b):=.simple 6 (λ{sc x env ρ σ s Q A} g L R h q=>by apply Lj _ h;intro l r pos M e;refine wpAny_BinOp (aQ.go (B.ev g L R M q) λv s₁ u Y z U r₁ J=>aQ.go (f.ev g (L.grow U) z e J) λi n k j t y r₂ I=>?_);unfold tL at I;exact aQ.backs (U.trans y) (Iy t (r₁.grow y aP.none) r₂ I)) (λc c h=>(vB h).1) rfl λc c=>rfl
theorem Jg(I:Ok prog w h₀ T G N C d a):Ok prog w h₀ T G N C d (.neg a):=by
 have ev:I9 prog w h₀ T G N C d (.neg a):=λ{sc x env ρ σ s Q A} g L R h q=>by apply Hq _ h;intro y pos h;refine wpAny_UnaryOp (aQ.go (I.ev g L R h q) λv s₁ u Y z U r₁ J=>?_);unfold C5 at J;obtain⟨i,rfl,J⟩:=J;exact aQ.backs U (Kf z r₁ J)
 refine .test ev (λ{sc x env ρ σ s P Q A} g L R h q B=>zc ?_ (ev g L R h q) B) λb b=>rfl;apply Hq _ h;intros;rfl
theorem JF(f:Ok prog w h₀ T G N C d a):Ok prog w h₀ T G N C d (.not a):=.test (λ{sc x env ρ σ s Q A} g L R h q=>by
  apply Hh _ h;intro y pos h;refine wpAny_UnaryOp (aQ.go (f.ev g L R h q) λv s₁ u Y B U r₁ J=>?_);unfold y8 at J;exact am (J) λb I r=>Qr (PN (nQ B r₁ I λn=>Qa ((aQ.val B jL r).back U))))
 (λ{sc x env ρ σ s P Q A} g L R h q j=>by apply Hh _ h;intro y pos h;refine wpAny_isTrue_Not (Qj (f.tr (Q:=λb σ=>Q (!b) σ) g L R h q λv σ q=>?_) (λb s₁ z=>z) λe e x=>x);unfold y8 at q;refine am (q) λt c i=>am (j _ _ i) λk M p=>?_;cases M;exact(aK t c p)) λe e=>rfl
theorem iU{A:Around}{σ:Hp}{s:Shared}{op:CmpOp}{x y:V}{u v:Value}{Q:V->Hp->Prop}(X:Ctx w K h₀ T G N)(g:Good d A)(R:aU w h₀ σ s)(h:aG σ s.heap x u)(B:aG σ s.heap y v)(q:eE op x Q y σ):
  wpAny (model prog w) A (compareOp op u v) (aQ w h₀ σ s Q) bE s:=by
 unfold eE at q
 exact am (q) λt m f=>xR X.one (d9 g dD) R h B m λn=>aQ.val R jL f
theorem JB(X:Ctx w K h₀ T G N)(op:CmpOp)(ha:Ok prog w h₀ T G N C d a)(hb:Ok prog w h₀ T G N C d b):Ok prog w h₀ T G N C d (.cmp op a b):=by
 refine .test (λ{sc x env ρ σ s Q A} g L R h q=>?_) (λ{sc x env ρ σ s P Q A} g L R h q hP=>?_) λc c=>rfl
 ·apply Hw _ h;intro l r pos o p h3;exact wpAny_Compare1 (aQ.go (ha.ev g L R o q) λv s₁ u Y z U r₁ J=>Qj (hb.ev g (L.grow U) z p J) (λkv n i=>oU i λku j B y r₂ I=>
   aQ.backs (U.trans y) (iU X g B (r₁.grow y aP.none) r₂ I)) λc c x=>x) h3
 apply Hw _ h;intro l r pos o p h3;exact wpAny_isTrue_Compare1 (aQ.go (ha.ev g L R o q) λv s₁ u Y z U r₁ J=>Qj (hb.ev g (L.grow U) z p J) (λkv n k=>oU k λku j B y r₂ I=>
  aQ.go (iU X g B (r₁.grow y aP.none) r₂ I) λc sa t Yc e M m f=>fj.backs ((U.trans y).trans M) (yi e m (hP _ _ f))) λc c x=>x) h3
theorem Tr.uniq(h:Tr σ v t)(h':Tr σ v t'):t=t':=by
 induction h with
 |list e _=>cases h' with|list b _=>replace b:=(e)▸b;cases b;rfl
 |_=>cases h';rfl
theorem JV{M:Model}{A:Around}{E:V8}{s:Shared}{env:PySem.Env}{l r j:Expr}{op k:CmpOp}{pos:Pos}{Q:V8}(i:behindInMarks k j=false)(h:wpAny M A (eval l env) (λa s₁=>wpAny M A (eval r env) (λb n=>wpAny M A (compareOp op a b) (λc J=>wpAny M A (PySem.truthy c) (λt e=>if t=true then
   wpAny M A (eval j env) (λz U=>wpAny M A (compareOp k b z) Q E U) E e else Q c e) E J) E n) E s₁) E s):
  wpAny M A (eval (.Compare l [op,k] [r,j] pos) env) Q E s:=by
 show wpAny M A (do compareChain pos (<-eval l env) [op,k] [eval r env,markedBehindIn k j (eval j env)]) Q E s
 refine rR (Uv i) (PN (Qj h (λa s₁ h₁=>?_) λf f x=>x))
 refine PN (Qr (Qj h₁ (λb n Y=>PN (Q7 (PN (Qr (Qj Y (λc J u=>PN (wpAny_release' (PN (Qr (Qj u (λt e o=>?_) λf f x=>x))))) λf f x=>x))))) λf f x=>x))
 induction t with
 |false=>exact Qa o
 |true=>refine PN (Qr (Qj o (λz U g=>PN (Q7 (UO g))) λf f x=>x))
theorem ya{M:Model}{A:Around}{E:V8}{s:Shared}{env:PySem.Env}{l r j:Expr}{op k:CmpOp}{pos:Pos}{bn:Sem Value}{Q:Bool->Shared->Prop}(p:behindInMarks k j=false)(h:wpAny M A (eval l env) (λa s₁=>wpAny M A (eval r env) (λb n=>wpAny M A (compareOp op a b) (λc J=>wpAny M A (PySem.truthy c) (λt e=>if t=true then
   wpAny M A (eval j env) (λz U=>wpAny M A (compareOp k b z) (λm v=>wpAny M A (PySem.truthy m) Q E v) E U) E e else Q false e) E J) E n) E s₁) E s):
  wpAny M A (isTrue (.Compare l [op,k] [r,j] pos) env bn) Q E s:=by
 show wpAny M A (do testChain pos (<-eval l env) [op,k] [eval r env,markedBehindIn k j (eval j env)]) Q E s
 refine rR (Uv p) (PN (Qj h (λa s₁ h₁=>?_) λf f x=>x))
 refine PN (Qr (Qj h₁ (λb n Y=>PN (Q7 (PN (Qr (Qj Y (λc J u=>PN (wpAny_release' (PN (Qr (Qj u (λt e o=>?_) λf f x=>x))))) λf f x=>x))))) λf f x=>x))
 induction t with
 |false=>exact Qa o
 |true=>refine PN (Qr (Qj o (λz U g=>PN (Q7 (PN (UO (Qj g (λm v i=>Qr i) λf f x=>x))))) λf f x=>x))
theorem Gu(X:Ctx w K h₀ T G N)(op hX:CmpOp)(ha:Ok prog w h₀ T G N C d a)(hb:Ok prog w h₀ T G N C d b)(hc:Ok prog w h₀ T G N C d c):Ok prog w h₀ T G N C d (.cmp2 op hX a b c):=by
 refine .test (λ{sc x env ρ σ s Q A} g L R h q=>?_) (λ{sc x env ρ σ s P Q A} g L R h q hP=>?_) λø ø=>rfl
 ·apply B0 _ h;intro l r r2 pos h1 h2 h4 h3;refine JV h3 (aQ.go (ha.ev g L R h1 q) λv s₁ u ia M U r₁ e=>aQ.go (hb.ev g (L.grow U) M h2 e) λkv o ku j B y r₂ J=>?_);unfold BM at J;refine PO (J) λt k=>xR X.one (d9 g dD) B (r₁.grow y aP.none) r₂ k.1 λn=>Sk ?_;cases t with
  |false=>exact((aQ.val B jL (k.2.2 rfl)).back y).back U
  |true=>have f:=(L.grow U).grow y;exact aQ.go (hc.ev (s:={o with toks:=n}) g f B.toks h4 (k.2.1 rfl)) λzv sa z Yc Y I m i=>Qj (iU X g Y (r₂.grow (s:={o with toks:=n}) I aP.none) m i) (λø ø z=>(((z.back I).back (aA.refl (X:=aS) (σ:=j) (s:=o)).toks).back y).back U) λø ø x=>x
 apply B0 _ h;intro l r r2 pos h1 h2 h4 h3;refine ya h3 (aQ.go (ha.ev g L R h1 q) λv s₁ u ia M U r₁ e=>aQ.go (hb.ev g (L.grow U) M h2 e) λkv o ku j B y r₂ J=>?_);unfold BM at J;refine PO (J) λt p=>xR X.one (d9 g dD) B (r₁.grow y aP.none) r₂ p.1 λn=>Sk ?_;cases t with
 |false=>refine am (hP _ _ (p.2.2 rfl)) λt' Dk Wk=>?_;cases Dk;exact⟨j,B.toks,(U.trans y).toks,Wk⟩
 |true=>have f:=(L.grow U).grow y;exact aQ.go (hc.ev (s:={o with toks:=n}) g f B.toks h4 (p.2.1 rfl)) λzv sa z Yc Y I m i=>aQ.go (iU X g Y (r₂.grow (s:={o with toks:=n}) I aP.none) m i) λø md t Zc Wb Zx od Wd=>Qj (yi Wb od (hP _ _ Wd)) (λø ø z=>((((z.back Zx).back I).back (aA.refl (X:=aS) (σ:=j) (s:=o)).toks).back y).back U) λø ø x=>x
theorem IW(k:Ok prog w h₀ T G N C d c)(i:Ok prog w h₀ T G N C d a)(j:Ok prog w h₀ T G N C d b):Ok prog w h₀ T G N C d (.ite c a b):=.test (λ{sc x env ρ σ s Q A} g L R h q=>by
  apply GQ _ h;intro x y z pos I e f;refine wpAny_IfExp (fj.go (k.tr (Q:=λt σ=>(t=true->cP T C a ρ σ Q)/\(t=false->cP T C b ρ σ Q)) g L R I q λv σ q=>iK q) λt s₁ Y B U J=>?_);induction t with
  |true=>exact aQ.backs U (i.ev g (L.grow U) B e (J.1 rfl))
  |false=>exact aQ.backs U (j.ev g (L.grow U) B f (J.2 rfl)))
 (λ{sc x env ρ σ s P Q A} g L R h q M=>by
  apply GQ _ h;intro x y z pos I e f;show wpAny (model prog w) A (do if<-isTrue x env (eval x env) then isTrue y env (eval y env) else isTrue z env (eval z env)) _ _ s;refine PN (fj.go (k.tr (Q:=λt σ=>(t=true->cP T C a ρ σ P)/\(t=false->cP T C b ρ σ P)) g L R I q λv σ q=>iK q) λt s₁ Y B U J=>?_);cases t with
  |true=>exact fj.backs U (i.tr g (L.grow U) B e (J.1 rfl) M)
  |false=>exact fj.backs U (j.tr g (L.grow U) B f (J.2 rfl) M)) λl l=>rfl
theorem Ic(r:Ok prog w h₀ T G N C d es):Ok prog w h₀ T G N C d (.and es):=.test (λg L R h q=>by apply GO _ h;exactλa a h=>r.bo (.inl ⟨rfl,rfl⟩) g L R h q) (λg L R h q A=>by apply GO _ h;exactλa a h=>r.al (.inl ⟨rfl,rfl⟩) g L R h q A) λa a=>rfl
theorem MN(r:Ok prog w h₀ T G N C d es):Ok prog w h₀ T G N C d (.or es):=.test (λg L R h q=>by apply K6 _ h;exactλa a h=>r.bo (.inr ⟨rfl,rfl⟩) g L R h q) (λg L R h q A=>by apply K6 _ h;exactλa a h=>r.al (.inr ⟨rfl,rfl⟩) g L R h q A) λa a=>rfl
theorem Ee:∀xs:List Expr,(evalEach xs env).length=xs.length:=by
 intro l;induction l with
 |nil=>exact rfl
 |cons _ xs ih=>exact PR (· +1) (ih)
theorem Ok.items{es:Internal.E}(r:Ok prog w h₀ T G N C d es){sc:Sc}{xs:List Expr}{env:PySem.Env}{pos:Pos}{ρ:Z8}{σ:Hp}{s:Shared}{Q:Z7->Hp->Prop}{A:Around}(g:Good d A)(L:Loc sc env h₀ s.heap σ ρ)(R:aU w h₀ σ s)(h:cV G N es sc xs=true)(q:Bu T C es ρ σ Q):
  wpAny (model prog w) A (spliced (backTo pos (starEach xs env))) (λvs s'=>vs.length=xs.length/\uo w h₀ σ s Q vs s') bE s:=rR (fe (jZ h)) (mN (tz (λvs s e z=>⟨e.trans (Ee xs),z⟩) (r.ls g L R h q)))
theorem I8(u:Ok prog w h₀ T G N C d es):Ok prog w h₀ T G N C d (.tup es):=.simple 11 (λ{sc x env ρ σ s Q A} g L R h q=>by apply Mw _ h;intro xs k pos h v;simp only[arm_eval_Tuple];refine PN (Q7 (PN (Qj (u.items g L R h q) (λvs s₁ t=>dQ t λhz t=>oU t λus Y y U r J=>?_) λa a x=>x)));exact UX ((aQ.tup (n:=s₁.toks) y (vs:=vs.toArray) r J).back U) (rR hz (gf (ID v dD)))) (λa a h=>(vB h).1) rfl λa a=>rfl
theorem EW(u:Ok prog w h₀ T G N C d es):Ok prog w h₀ T G N C d (.list es):=.simple 12 (λ{sc x env ρ σ s Q A} g L R h q=>by apply J1 _ h;intro xs pos h v;simp only[arm_eval_List];refine PN (Q7 (PN (Qj (u.items g L R h q) (λvs s₁ t=>dQ t λhz t=>oU t λus Y y U r J=>?_) λa a x=>x)));exact Uo ((aQ.list (n:=s₁.toks) y (vs:=vs.toArray) r J).back U) (rR hz (gf (ID v dD)))) (λa a h=>(vB h).1) rfl λa a=>rfl
theorem JR:Ok prog w h₀ T G N C d .nil where
 ev:=λa a a h=>VC h PC
 tr:=λa a a h=>VC h PC
 ls:=λ{sc xs env ρ σ s Q A} a a R h q=>by exact(Qe (Q4.mp h))▸⟨[],σ,R,aA.refl,.nil,q⟩
 bo:=λa a a a a q=>False.elim q
 al:=λa a a a a q=>False.elim q
 ks:=λ{sc xs env ρ σ s Q A} a a R h q=>by exact(Q4.mp h)▸(Qa ⟨σ,R,aA.refl,q⟩)
theorem vJ{E:V8}{Q:V8}(g:op=.And/\stop=false\/op=.Or/\stop=true)(h:wpAny M A x (λv s₁=>wpAny M A (PySem.truthy v) (λb n=>if b=stop then Q v n else wpAny M A (boolOp pos op (y::r)) Q E n) E s₁) E s):wpAny M A (boolOp pos op (x::y::r)) Q E s:=by
 show wpAny M A (x>>=_) Q E s
 refine PN (Qj h (λv s₁ h₁=>PN (Q7 (PN (Qr (Qj h₁ (λb n U=>?_) λa a x=>x))))) λa a x=>x)
 rcases g with ⟨rfl,rfl⟩|⟨rfl,rfl⟩<;>induction b<;>first|exact Qa (by simpa using U)|(simpa using U)
theorem mq{E:V8}{Q:Bool->Shared->Prop}(g:op=.And/\stop=false\/op=.Or/\stop=true)(h:wpAny M A (isTrue x env (eval x env)) (λb n=>if b=stop then Q stop n else wpAny M A (allTrue op r env) Q E n) E s):wpAny M A (allTrue op (x::r) env) Q E s:=by
 show wpAny M A (isTrue x env (eval x env)>>=_) Q E s
 refine PN (Qj h (λb n U=>?_) λa a x=>x)
 rcases g with ⟨rfl,rfl⟩|⟨rfl,rfl⟩<;>induction b<;>first|exact Qa (by simpa using U)|(simpa using U)
theorem sQ(h:jG stop r ρ Q v σ):∃t,Tr σ v t/\(t=stop->Q v σ)/\(t≠stop->r ρ σ Q):=by
 induction stop with
 |false=>exact PO (iK h) λt i=>(oW t i.1 i.2.2 (λn=>i.2.1 ((Bool.not_eq_false _).mp n)))
 |true=>exact PO (iK h) λt a=>(oW t a.1 a.2.1 (λn=>a.2.2 ((Bool.not_eq_true _).mp n)))
theorem xa(q:Bk T C (.cons a r) stop ρ σ Q)(h:cV G N r sc xs=true):(xs=[]/\cP T C a ρ σ Q)\/∃y ys,xs=y::ys/\cP T C a ρ σ (jG stop (Bk T C r stop) ρ Q):=by
 have q:(Ed r).casesOn (motive:=λb=>Prop) (cP T C a ρ σ (jG stop (Bk T C r stop) ρ Q)) (cP T C a ρ σ Q):=q;cases e:Ed r with
 |true=>
  replace q:=(e)▸q;obtain⟨_,rfl⟩|⟨t,I,_,_,rfl,_⟩:=qV h
  ·exact .inl ⟨rfl,q⟩
  cases e
 |false=>
  replace q:=(e)▸q;obtain⟨rfl,_⟩|⟨_,_,y,ys,_,rfl,_⟩:=qV h
  ·cases e
  exact .inr (rS y ys rfl q)
theorem EH(ha:Ok prog w h₀ T G N C d a)(hr:Ok prog w h₀ T G N C d r):Ok prog w h₀ T G N C d (.cons a r) where
 ev:=λk k k h=>VC h PC
 tr:=λk k k h=>VC h PC
 ls:=λ{sc xs env ρ σ s Q A} g L R h q=>by apply uU _ h;intro x xs M _ f;show wpAny (model prog w) A (eval x env) (λv s'=>xg (model prog w) A bE (evalEach xs env) (λvs=>uo w h₀ σ s Q (v::vs)) s') bE s;refine aQ.go (ha.ev g L R M q) λv s₁ u Y B U r₁ J=>tz (λvs oa _ ay=>oU ay λus Xd Xb i rs fb=>?_) (hr.ls g (L.grow U) B f J);exact⟨u::us,Xd,Xb,U.trans i,.cons (r₁.grow i aP.none) rs,fb⟩
 bo:=λ{op j sc xs env pos ρ σ s Q A} m g L R h q=>by
  apply uU _ h;intro x xs M _ f;obtain⟨rfl,q⟩|⟨y,ys,rfl,q⟩:=xa q f
  ·exact ha.ev g L R M q
  refine vJ m (aQ.go (ha.ev g L R M q) λv s₁ u Y B U r₁ J=>?_);refine nR (sQ J) λt e p Xk=>nQ B r₁ e λn=>?_;by_cases c:t=j
  ·exact rR (PW c) ((aQ.val B r₁ (p c)).back U)
  rw[PV c];exact aQ.backs U.toks (hr.bo (pos:=pos) (xs:=y::ys) m g (L.grow (U.toks (n:=n))) B.toks f (Xk c))
 al:=λ{op j sc xs env ρ σ s P Q A} m g L R h q hP=>by
  apply uU _ h;intro x xs M _ f;obtain⟨rfl,q⟩|⟨y,ys,rfl,q⟩:=xa q f
  ·refine mq m (Qj (ha.tr g L R M q hP) (λb s₁ z=>?_) λk k x=>x);rcases m with ⟨rfl,rfl⟩|⟨rfl,rfl⟩<;>induction b<;>first|(exact rR (PW rfl) z)|(rw[PV dD];exact Qa z)
  refine mq m (fj.go (ha.tr (Q:=λt σ=>(t=j->Q t σ)/\(t≠j->Bk T C r j ρ σ P)) g L R M q λv σ q=>?_) λt s₁ Y B U J=>?_)
  ·refine nR (sQ q) λt o Yk Zk=>?_;by_cases c:t=j
   ·exact am (hP _ _ (Yk c)) λt' I q=>(oW t' I (λk=>q) (λn=>VC (sB (Tr.uniq o I) c) n))
   exact⟨t,o,λz=>VC z c,Zk⟩
  by_cases c:t=j
  ·exact rR (PW c) (sB c ⟨Y,B,U,J.1 c⟩)
  rw[PV c];exact fj.backs U (hr.al (xs:=y::ys) m g (L.grow U) B f (J.2 c) hP)
 ks:=λ{sc xs env ρ σ s Q A} g L R h q=>by
  apply uU _ h;intro x xs M _ f;rw[SJ];show wpAny (model prog w) A ((do let ok<-isTrue x env (eval x env);pure (ForInStep.yield ok))>>=_) _ _ s;refine PN (PN (fj.go (ha.tr (Q:=λt σ=>(t=true->Bv T C r ρ σ Q)/\(t=false->Q false σ)) g L R M q λv σ q=>iK q) λt s₁ Y B U J=>?_));refine Qa ?_;cases t with
  |true=>exact fj.backs U (hr.ks g (L.grow U) B f (J.1 rfl))
  |false=>
   have:∀l:List Expr,wpAny (model prog w) A (forIn l false (yH env)) (fj w h₀ σ s Q) bE s₁:=λl=>by
    induction l with
    |nil=>exact Qa ⟨Y,B,U,J.2 rfl⟩
    |cons y l ih=>rw[SJ];exact PN (Qa ih)
   exact this xs
end
end
mutual
theorem aG.adopt(b:h.get? D=some ob)(hi:gU ob):∀{v:V}{u:Value},aG σ h v u->aG (upd σ D o) h v u
 |.none,_,r=>r
 |.bool _,_,r=>r
 |.int _,_,r=>r
 |.str _,_,r=>r
 |.fro _,_,r=>r
 |.ref _,_,r=>by exact⟨r.1,iS r.2⟩
 |.rng _,_,r=>by
  refine NK (r) λa t x y J hs i=>?_;subst J;have g:a≠D:=by rintro rfl;replace b:=(i)▸b;cases b;exact hi.2 rfl _ rfl
  exact⟨a,t,x,y,rfl,(bT g).trans hs,i⟩
 |.tup l,_,r=>by
  refine zG (r) λa items k C hs ht s=>?_;subst C;have g:a≠D:=by rintro rfl;replace b:=(show h.get? a=_ from ht)▸b;cases b;exact hi.1 rfl _ _ rfl
  exact(Nf a items k rfl ((bT g).trans hs) ht (iB.adopt b hi s))
theorem iB.adopt(b:h.get? D=some ob)(hi:gU ob):∀{v:Z7}{u:X9},iB σ h v u->iB (upd σ D o) h v u
 |[],_,r=>r
 |a::l,_,r=>by obtain⟨x,r,rfl,hx,hl⟩:=r;exact⟨x,r,rfl,aG.adopt b hi hx,iB.adopt b hi hl⟩
end
theorem aU.adopt(R:aU w h₀ σ s)(f:σ D=none)(I:h₀.get? D=none)(g:s.heap.get? D=some ob)(hi:gU ob)(A:pW o=true)(c:wJ w σ s.heap D o):
  aU w h₀ (upd σ D o) s:=by
 have t:∀{v:V}{u:Value},aG σ s.heap v u->aG (upd σ D o) s.heap v u:=λr=>r.adopt g hi
 refine⟨λa q e=>?_,λb q e=>?_,R.gens⟩
 ·by_cases h:a=D
  ·subst h;replace e:=(bO)▸e;cases e;exact c.mono (λd d=>t) (λd d e=>e) (λC dx x e=>VC ((PR pW e).symm.trans A) PC) λy e=>VC ((PR pW e).symm.trans A) PC
  replace e:=(bT h)▸e;exact(R.conc a q e).mono (λd d=>t) (λd d e=>e) (λC dx x d=>⟨λq e=>e,λp=>(bT ((λ{y o} p z=>S7 _ (p.symm.trans ((PR σ z).trans f)):∀{y o},σ y=some o->y≠D) p)).trans p⟩) λy d C x p=>(vy C x ((bT ((λ{y o} p z=>S7 _ (p.symm.trans ((PR σ z).trans f)):∀{y o},σ y=some o->y≠D) p)).trans p))
 ·have G:=R.old b q e;have:b≠D:=by rintro rfl;replace e:=(I)▸e;cases e
  exact⟨(bT this).trans G.1,G.2⟩
section
variable{w:World}{h₀:Heap}{C:cj}
mutual
set_option tactic.hygienic true in
theorem yK(h:isNone e=true):e=.lit .none:=by
 induction e<;>first|exact VC h PC|skip
 rename_i v
 cases v<;>first|rfl|exact VC h PC
theorem Ok.opt(y:Ok prog w h₀ T G N C d a){Q:V->Hp->Prop}(g:Good d A)(L:Loc sc env h₀ s.heap σ ρ)(R:aU w h₀ σ s)(h:lG (aE G N a sc) a x=true)(q:cP T C a ρ σ Q):wpAny (model prog w) A (evalPart x env) (aQ w h₀ σ s Q) bE s:=by
 induction x with
 |some x=>exact y.ev g L R h q
 |none=>cases yK h;exact Qa (aQ.val' R fg q)
theorem Jd(X:Ctx w K h₀ T G N)(R:aU w h₀ σ s)(r:aG σ s.heap x v)(h:zf T σ x l):∃b items,v=.ref b/\s.heap.IsList b items/\an (aG σ s.heap) l items.toList:=by
 induction h with
 |fro e=>refine PO (X.tab.seq _ _ e) λitems n=>?_;have z:=n.1;have t:=n.2;exact⟨_,items,r,z.at λo e=>R.oldGet _ _ e,t _ _ R⟩
 |list e=>refine PO (R.lists e) λitems f=>?_;have z:=f.1;have t:=f.2;exact⟨_,items,r.ref_inv,z,t⟩
theorem Cn(X:Ctx w K h₀ T G N){a lo hi st:Internal.E}(ha:Ok prog w h₀ T G N C d a)(CX:Ok prog w h₀ T G N C d lo)(FX:Ok prog w h₀ T G N C d hi)(IX:Ok prog w h₀ T G N C d st):Ok prog w h₀ T G N C d (.slice a lo hi st):=.simple 4 (λ{sc x env ρ σ s Q A} g L R h q=>by
 apply Gb _ h;intro o l u p pp pos h1 h2 h3 h4;refine Subscript_ (aQ.go (ha.ev g L R h1 q) λv s₁ x ia m U r₁ nb=>wpAny_Slice ?_);refine aQ.go (CX.opt g (L.grow U) m h2 nb) λvl oa xl Xd r z r₂ fb=>?_;have j:=(L.grow U).grow z;refine aQ.go (FX.opt g j r h3 fb) λvh sa xh Yc n t Yd Wh=>aQ.go (IX.opt g (j.grow t) n h4 Wh) λvs f xs Zc Wb M od I=>?_;unfold nX at I;refine oU (I) λys zs B c J k=>?_;have y:=Wb.more (s':={f with heap:=f.heap.push {cls:=.type "slice",data:=.fields #[vl,vh,vs]}}) (λb o e=>Ql _ e) rfl rfl;have i:=M.trans y.2;refine i5 (Jd X y.1 (r₁.grow (z.trans (t.trans i)) aP.none) B) λb items ly=>DP (ly) λWy cl Xh=>rR Wy ?_;have Y:∃ws,subscripted (.Slice l u p pp) false (.ref b) (.ref f.heap.objs.size)=operate ws (getItem (.ref b) (.ref f.heap.objs.size)):=by induction p<;>exact⟨_,rfl⟩
 exact PO (Y) λws Y=>wo (cl.typeIs (s:={f with heap:=f.heap.push {cls:=.type "slice",data:=.fields #[vl,vh,vs]}})) slot_list_getitem.lookup Y (aQ.backs (U.trans (z.trans (t.trans i))) (B1 (Q:=Q) y.1 cl Xh J ⟨_,QV _ rfl,rfl,rfl⟩ (r₂.grow (t.trans i) aP.none) (Yd.grow i aP.none) (od.grow y.2 aP.none) c k))) (λø ø h=>(vB h).1) rfl λø ø=>rfl
theorem dZ(r:Ok prog w h₀ T G N C d es){Q:Z7->Hp->Prop}{P:Args->Shared->Prop}(g:Good d A)(L:Loc sc env h₀ s.heap σ ρ)(R:aU w h₀ σ s)(h:cV G N es sc xs=true)(q:Bu T C es ρ σ Q)(k:∀vs s',uo w h₀ σ s Q vs s'->P ⟨vs,[]⟩ s'):wpAny (model prog w) A (evalArgs f true (backTo pos (starEach xs env)) []) P bE s:=by
 have J:=r.items (pos:=pos) g L R h q
 induction xs with
 |nil=>exact PySem.evalArgs_none (k [] s (r.ls g L R h q))
 |cons x xs=>rw[(fe (pos:=pos) (env:=env) (jZ h))] at J⊢;exact Calls.evalArgs_plain (Qj J (λvs s' z=>k vs s' z.2) λa a x=>x)
theorem j4(h:cV G N es sc xs=true):(backTo pos (starEach xs env)).any (·.1)=false:=by
 refine rR (fe (jZ h)) ?_;generalize evalEach xs env=l;induction l with
 |nil=>rfl
 |cons a l ih=>simpa using ih
theorem oH(X:Ctx w K h₀ T G N)(r:Ok prog w h₀ T G N C d es)(c:keepIn K (.ref f)=true){Q:Z7->Hp->Prop}{P:V8}(g:Good d A)(L:Loc sc env h₀ s.heap σ ρ)(R:aU w h₀ σ s)(h:cV G N es sc xs=true)(q:Bu T C es ρ σ Q)(k:∀vs s',uo w h₀ σ s Q vs s'->wpAny (model prog w) A (call (.ref f) (first++vs)) P bE s'):wpAny (model prog w) A (callWith pos (.ref f) first (backTo pos (starEach xs env)) []) P bE s:=by
 refine callWith_of (P:=λh=>K.In h) (by refine(Qe (j4 h))▸?_;rfl) (keeps_K c) (dZ r g L R h q λvs s' z=>⟨?_,k vs s' z⟩)
 exact eA (z) λus o l _=>X.inn.keeps l.oldGet
theorem FJ(X:Ctx w K h₀ T G N)(e:lW prog w h₀ d C)(f:Addr)(y:Str)(u:Ok prog w h₀ T G N C d es):Ok prog w h₀ T G N C d (.call f y es):=.simple 14 (λ{sc x env ρ σ s Q A} g L R h q=>by apply J6 _ h;intro n p xs pos I c o;refine KN (X.ns) λmg mb t i _ z _=>?_;have r:=z _ _ c;refine Call_Name rfl (L.global R t I r.1 (oH X u r.2 g L R o q λvs s₁ Y=>oU Y λus b B U r₁ J=>?_));exact aQ.backs U (e g B r₁ J)) (λa a h=>(vB h).1) rfl λa a=>rfl
theorem qy{P:V8}(g:j2 o=true)(hs:xs.all c0=true)(v:(apos.endLine==pos.line)=true)(r:xs.length<15)(h:wpAny M A (eval o env) (λov s₁=>∀j,wpAny M A (getMethod ov name j) (λd n=>wpAny M A (callWith pos d.1 d.2 (backTo pos (starEach xs env)) []) P bE n) bE s₁) bE s):
  wpAny M A (eval (.Call (.Attribute o name apos) xs [] pos) env) P bE s:=by
 show wpAny M A (attributeBase o name env (eval o env)>>=_) P bE s
 refine rR (pF g) (PN (Qj h (λov s₁ h₁=>PN (Q7 ?_)) λa a x=>x))
 have i:methodCallForm (xs.length+0) (backTo pos (starEach xs env)) (backToKw pos (keywordEach [] env))=true:=by unfold methodCallForm;refine rR (fe hs) ?_;simp [show backToKw pos (keywordEach [] env)=[] from rfl];exact lq r
 unfold methodCall
 refine rR i ?_
 have c:methodCallPos true o env apos pos=pure pos:=by unfold methodCallPos;refine rR v ?_;rfl
 exact rR c (PN (Qr (Qj (h₁ _) (λd n T=>by obtain⟨f,first⟩:=d;exact PN (Qa T)) λa a x=>x)))
def rC(prog:Program)(w:World)(h₀:Heap)(A:Around)(ov:Value)(σ:Hp)(s:Shared)(Q:KV)(id:String)(vs:X9):Prop:=wpAny (model prog w) A (call (.builtin id) (ov::vs)) (aQ w h₀ σ s Q) bE s
theorem K4{B:Hp->KV->Z7->Prop}(X:Ctx w K h₀ T G N)(hu:A.units+5<cLine)(z:aU w h₀ ia s₁)(r₁:aG ia s₁.heap x ov)(hm:xr T ia x m B){Z:Prop}(k:∀id:String,(∀pl,∀{P:Value×X9->Shared->Prop},P (.builtin id,[ov]) s₁->wpAny (model prog w) A (getMethod ov m pl) P bE s₁)->
   (∀{j:Hp}{o:Shared}{us:Z7}{vs:X9},aU w h₀ j o->aA aS ia s₁ j o->an (aG j o.heap) us vs->B j Q us->rC prog w h₀ A ov j o Q id vs)->Z):Z:=by
 induction hm with
 |join=>exact PO r₁.str_inv λt e=>k "str.join" (λpl P p=>by subst e;with_reducible refine SO (T:="str") (id:="str.join") (v:=.str _ t) (typeIs_str _ _ _) F.plainAttrs_str F.slot_str_join F.type_str_join (λø e=>nomatch e) p) λ{j o us vs} s y r₂ I=>I (λus=>an (aG j o.heap) us vs->_) (λa l c hz q r=>r.one (P:=rC prog w h₀ A ov j o Q "str.join") λu h=>h.ref_inv▸e▸Gf s (e▸r₁.grow y aP.none) c hz q) r₂
 |getF eT=>have Y:=X.tab.fro _ _ eT;have Xy:=Y.1;refine dg Y.2 λba k' g Yy qk=>?_;have f:ov=.ref _:=r₁;exact k "dict.get" (λpl P p=>f▸SO ⟨_,(z.oldGet _ _ g),rfl⟩ F.plainAttrs_dict TN F.type_dict_get (λa' c=>by cases c;exact(aK _ (z.oldGet _ _ g) rfl)) (f▸p)) λ{j o us vs} s y r₂ I=>I (λus=>an (aG j o.heap) us vs->_) (λa b d q r=>r.two (P:=rC prog w h₀ A ov j o Q "dict.get") λø ø h hy=>f▸Cz s Xy hu (s.oldGet _ _ g) (Yy _ _ s) qk d h hy q) r₂
 |getD el=>
  have f:=r₁.ref_inv;refine PO (z.conc _ _ el) λba Zy=>PO Zy λk' Wz=>?_;have g:=Wz.1;exact k "dict.get" (λpl P p=>f▸SO ⟨_,g,rfl⟩ F.plainAttrs_dict TN F.type_dict_get (λa' c=>by cases c;exact(aK _ g rfl)) (f▸p)) λ{j o us vs} s y r₂ I=>I (λus=>an (aG j o.heap) us vs->_) (λa b es U d q r=>by
   exact dg (s.conc _ _ U) λL KX M i J=>r.two (P:=rC prog w h₀ A ov j o Q "dict.get") λø ø h hy=>f▸Cz s (wb X.one s (by refine rR U ?_;rfl)) hu M i J d h hy q) (λa es U d q r=>by
   exact dg (s.conc _ _ U) λL KX M i J=>r.one (P:=rC prog w h₀ A ov j o Q "dict.get") λø h=>f▸Gw s (wb X.one s (by refine rR U ?_;rfl)) hu M i J d h q) r₂
 |append el=>have f:=r₁.ref_inv;refine PO (z.conc _ _ el) λitems Xz=>PO Xz λk' Yz=>?_;have g:=Yz.1;exact k "list.append" (λpl P p=>f▸SO ⟨_,g,rfl⟩ F.plainAttrs_list T5 F.type_list_append (λa' c=>by cases c;exact⟨_,g,rfl⟩) (f▸p)) λ{j o us vs} s y r₂ I=>I (λus=>an (aG j o.heap) us vs->_) (λl v U hz q r=>r.one (P:=rC prog w h₀ A ov j o Q "list.append") λø h=>f▸Br s U hz h q) r₂
 |extend el=>have f:=r₁.ref_inv;refine PO (z.conc _ _ el) λitems Zz=>PO Zz λk' WA=>?_;have g:=WA.1;exact k "list.extend" (λpl P p=>f▸SO ⟨_,g,rfl⟩ F.plainAttrs_list Vm F.type_list_extend (λa' c=>by cases c;exact⟨_,g,rfl⟩) (f▸p)) λ{j o us vs} s y r₂ I=>I (λus=>an (aG j o.heap) us vs->_) (λb l r U n eb hz q r=>r.one (P:=rC prog w h₀ A ov j o Q "list.extend") λø h=>h.ref_inv▸f▸Bs s U eb hz q) r₂
theorem F3(X:Ctx w K h₀ T G N)(hC:lW prog w h₀ d C)(n:Str)(ha:Ok prog w h₀ T G N C d a)(z:Ok prog w h₀ T G N C d es):Ok prog w h₀ T G N C d (.meth a n es):=.simple 14 (λ{sc x env ρ σ s Q A} g L R h q=>by
 apply JN _ h;intro o v xs pos m h2 Y h4 h5;refine qy (o:=o) h2 (jZ (xs:=xs) Y) h4 (Qq h5) (Qj (ha.ev g L R m q) (λov s₁ M pl=>oU M λx l y U r₁ J=>?_) λk k x=>x);unfold rF at J;rcases J with ⟨b,c,dx,fs,f,rfl,e,ef,rk,J⟩|⟨B,hm,J⟩
 ·cases r₁.ref_inv;refine EG (X.tab.meth _ _ _ ef) λ_ _ _ i=>u4 X.tab (X.inn.keeps y.oldGet) y e ef rk (oH X z i g (L.grow U) y Y J λvs p t=>oU t λus j r u r₂ I=>?_);exact aQ.backs (U.trans u) (hC (us:=.ref b::vs) g r (.cons (r₁.grow u aP.none) r₂) I)
 refine K4 (prog:=prog) (Q:=Q) X (d9 g dD) y r₁ hm λid hg hc=>hg pl (UE (j4 Y) (dZ z g (L.grow U) y Y J λvs p zz=>oU zz λus j r u r₂ I=>?_));unfold n7 at I;exact aQ.backs (U.trans u) (hc r u r₂ I)) (λk k h=>(vB h).1) rfl λk k=>rfl
theorem Lv{A:Around}{σ:Hp}{s:Shared}{Q:V->Hp->Prop}{b:Bi}{xs:Z7}{us:X9}(f:(h₀.get? 1).isSome=true)(t:A.handled=none)(R:aU w h₀ σ s)(i:an (aG σ s.heap) xs us)(h:zq σ Q b xs):
  wpAny (model prog w) A (call (AH b) us) (aQ w h₀ σ s Q) bE s:=by
 induction h with
 |sortI e h k q=>exact i.one (P:=CV prog w h₀ A σ s Q .sorted) λu i=>i.ref_inv▸uQ f t R e h k q
 |sortS e h k q=>exact i.one (P:=CV prog w h₀ A σ s Q .sorted) λu i=>i.ref_inv▸vg f t R e h k q
 |sortP e h b q=>exact i.one (P:=CV prog w h₀ A σ s Q .sorted) λu i=>i.ref_inv▸vX R e (by rw[PL];exact h) λa r=>vW r h b q
 |lenT h q=>exact kZ f t R i (.lenT h q) rfl
 |lenL e h q=>exact kZ f t R i (.lenL e h q) rfl
 |lenD e h k q=>exact kZ f t R i (.lenD e h k q) rfl
 |range h q=>exact kZ f t R i (.range h q) rfl
 |all e q=>exact kZ f t R i (.all e q) rfl
 |str h q=>exact kZ f t R i (.str h q) rfl
 |tuple e h q=>exact kZ f t R i (.tuple e h q) rfl
theorem L8(X:Ctx w K h₀ T G N)(b:Bi)(t:Ok prog w h₀ T G N C d es):Ok prog w h₀ T G N C d (.bi b es):=.simple 14 (λ{sc x env ρ σ s Q A} g L R h q=>by
 apply Ol _ h;intro p xs pos f a;refine KN (X.ns) λmg mb o v _ _ y=>Call_Name rfl (L.builtin R o v f (y b).1 (y b).2 ?_);have k:∀vs s',uo w h₀ σ s (FI b Q) vs s'->wpAny (model prog w) A (call (AH b) vs) (aQ w h₀ σ s Q) bE s':=λvs s₁ Y=>oU Y λus e B U r₁ M=>by unfold FI at M;exact aQ.backs U (Lv X.one g.1 B r₁ M)
 have r:∀id:String,(∀vs s',uo w h₀ σ s (FI b Q) vs s'->wpAny (model prog w) A (call (.builtin id) vs) (aQ w h₀ σ s Q) bE s')->wpAny (model prog w) A (callWith pos (.builtin id) [] (backTo pos (starEach xs env)) []) (aQ w h₀ σ s Q) bE s:=λid k=>
  UE (j4 a) (dZ t g L R a q λvs s' z=>k vs s' z);have J:∀id:String,(∀vs s',uo w h₀ σ s (FI b Q) vs s'->wpAny (model prog w) A (call (.type id) vs) (aQ w h₀ σ s Q) bE s')->wpAny (model prog w) A (callWith pos (.type id) [] (backTo pos (starEach xs env)) []) (aQ w h₀ σ s Q) bE s:=λid k=>
  PySem.callWith_type (j4 a) (dZ t g L R a q λvs s' z=>k vs s' z);induction b with
 |len=>exact r _ k
 |range=>exact J _ k
 |sorted=>exact r _ k
 |all=>exact r _ k
 |str=>exact J _ k
 |tuple=>exact J _ k) (λc c h=>(vB h).1) rfl λc c=>rfl
theorem pairsOk:∀{ks:List (Option Expr)}{vs xs:List Expr}{P:X9->Shared->Prop}{s:Shared},tJ ks vs=some xs->xg M A bE (evalEach xs env) P s->
  wpAny M A (evalPairs (pairTrees ks vs env pos)) (λps s'=>P (ps.flatMap λp=>[p.1,p.2]) s') bE s
 |[],vs,xs,P,s,h,q=>by obtain⟨h,e⟩:=mA h;refine rR (Q4.mp h) ?_;induction e;exact Qa q
 |none::_,_,_,_,_,h,_=>nomatch h
 |some _::_,[],_,_,_,h,_=>nomatch h
 |some k::ks,v::vs,xs,P,s,h,q=>by refine am (QZ.mp (show(tJ ks vs).map (λr=>k::v::r)=some xs from h)) λr h' Y=>?_;subst Y;show wpAny M A (evalPairs ((eval k env,do let x<-eval v env;standAt pos;pure x)::pairTrees ks vs env pos)) _ _ s;refine PN (Qj (q:wpAny M A (eval k env) (λu s₁=>wpAny M A (eval v env) (λG n=>xg M A bE (evalEach r env) (λl=>P (u::G::l)) n) bE s₁) bE s) (λu s₁ J=>PN (Qr (PN (Qj J (λG n I=>PN (Q7 (Qa (PN (Qr ?_))))) λa a x=>x)))) λa a x=>x);exact Qj (pairsOk (pos:=pos) h' I) (λps N L=>Qa L) λa a x=>x
theorem vO:∀{ks:List (Option Expr)}{vs xs:List Expr},tJ ks vs=some xs->ks.all (·.isSome)=true/\ks.length=vs.length/\(ks=[]->xs=[])
 |[],vs,_,h=>by obtain⟨h,e⟩:=mA h;exact rR (Q4.mp h) ⟨rfl,rfl,λa=>e.symm⟩
 |none::_,_,_,h=>nomatch h
 |some _::_,[],_,h=>nomatch h
 |some k::ks,v::vs,xs,h=>by refine am (QZ.mp (show(tJ ks vs).map (λr=>k::v::r)=some xs from h)) λr h' b=>sB b ?_;have:=vO h';exact⟨this.1,PR (· +1) this.2.1,nofun⟩
theorem Bt{R:V->Value->Prop}(e:pairsOf us ps)(h:an R us (vs.flatMap λp=>[p.1,p.2])):an (λ(p:V×V) (q:Value×Value)=>R p.1 q.1/\R p.2 q.2) ps vs:=by
 cases e;induction ps generalizing vs with
 |nil=>induction vs with
  |nil=>exact .nil
  |cons p l=>exact Nat.noConfusion h.length
 |cons a ps ih=>cases vs with
  |nil=>exact Nat.noConfusion h.length
  |cons p l=>exact .cons ⟨h.cc.1,h.cc.2.cc.1⟩ (ih h.cc.2.cc.2)
theorem pU:gU {cls:=.type "dict",data:=.dict ba n}:=⟨λe=>by simp at e,λe=>by simp at e⟩
structure JQ(qs:X7):Prop where
 nd:(qs.map (·.1)).Nodup
 p:∀p∈qs,cF p.1=true
 k:∀p∈qs,∀q∈qs,cp p.1=cp q.1
 z:qs.length<=lim
theorem JQ.at_{p:V×V}(L:JQ qs)(e:es++p::ps=qs):(es.map (·.1)).Nodup/\aI p.1 es=true/\es.length<=lim/\hV p.1 es=none:=by
 have n:=Q8.mp (sB (PU (f:=Prod.fst)) (rR e L.nd));have m:p∈qs:=e▸PK _ (.head _);exact⟨n.1,P7.mpr ⟨L.p p m,Qc.mpr λx h=>Qd.mpr (L.k x (sB e (PZ _ h)) p m)⟩,
  ID (PQ▸PM ..) (e.symm▸L.z),Uf.mpr λx h=>Qb λz=>n.2.2 x.1 (P1.mpr (aK x h rfl)) p.1 (.head _) z⟩
theorem xc{D:Addr}{σ:Hp}{P:PUnit->Shared->Prop}(L:JQ qs)(d:A.units+5<cLine)(f:σ D=none)(c:h₀.get? D=none):∀{vs:List (Value×Value)}{es:X7}{s:Shared}{y:Array DictEntry}{ep:Nat},es++ps=qs->aU w h₀ σ s->
  s.heap.get? D=some {cls:=.type "dict",data:=.dict y ep}->an (bF w σ s.heap) es y.toList->an (λ(p:V×V) (q:Value×Value)=>aG σ s.heap p.1 q.1/\aG σ s.heap p.2 q.2) ps vs->
  (∀s' G t,aU w h₀ σ s'->aA (λb=>b=D) σ s σ s'->s'.heap.get? D=some {cls:=.type "dict",data:=.dict G t}->an (bF w σ s'.heap) qs G.toList->P ⟨⟩ s')->
  wpAny (model prog w) A (storeAll D vs) P bE s:=by
 induction ps with
 |nil=>intro vs es s y ep e R g r Y q;cases Y;exact Qa (q s y ep R aA.refl g (e▸(Qm es).symm▸r))
 |cons p ps ih=>
  intro vs es s y ep e R g r Y q;refine Y.uncons (P:=λvs=>wpAny (model prog w) A (storeAll D vs) P bE s) λv vs i Y=>EG (L.at_ e) λnd k hz Q=>?_;unfold storeAll;rw[SJ];refine PN (PN (tt g r nd k i.1 i.2 (lq d) hz λh' G t n hs ao T a=>Qa ?_));have z:∀o,s.heap.get? D=some o->gU o:=λo e=>by cases g.symm.trans e;exact pU
  refine dQ (eV (n:=n) (h':=h') R ⟨f,c⟩ z λx o l e=>hs.extBut x o l e) λU m=>?_;have Fr:aP s.heap (λb=>b=D):=λb o e j=>z o (e▸j);rw[mf Q] at T;exact ih (s:={s with heap:=h',toks:=n}) ((R8 ..).symm.trans e) U ao (T.mono λa a x=>⟨x.1,x.2.1.grow m Fr,x.2.2.1,x.2.2.2.grow m Fr⟩) (Y.mono λa a x=>⟨x.1.grow m Fr,x.2.grow m Fr⟩)
   λh J M I B u N=>q h J M I (m.transX B λx e=>⟨_,e▸ao⟩) u N
theorem kinds_of{qs:X7}(q:(qs.all (λp=>isStr p.1)||qs.all (λp=>isInt p.1))=true):∀p∈qs,∀A∈qs,cp p.1=cp A.1:=by
 have s:∀v:V,isStr v=true->cp v=1:=λv h=>by cases v<;>first|rfl|exact VC h PC
 have i:∀v:V,isInt v=true->cp v=0:=λv h=>by cases v<;>first|rfl|exact VC h PC
 intro p x A G;rcases Qw.mp q with q|q
 ·simp only[s _ (Qc.mp q p x),s _ (Qc.mp q A G)]
 simp only[i _ (Qc.mp q p x),i _ (Qc.mp q A G)]
theorem Ff{es:Internal.E}(he:Ok prog w h₀ T G N C d es):Ok prog w h₀ T G N C d (.dict es):=.simple 13 (λ{sc x env ρ σ s Q A} g L R h q=>by
 refine dQ (vB h) λht h=>k6 (bj ht) λks vs pos c=>?_;subst c;refine am (fP (vB h).1) λxs ex h1=>DP (vO (ks:=ks) (vs:=vs) ex) λf1 f2 f3=>?_;by_cases hn:ks=[]
 ·subst hn;refine rR (RW.mp f2.symm) ?_;simp only[f3 rfl] at h1;refine oU ((he.ls g L R h1 q:uo w h₀ σ s _ [] s)) λus Y z U r₁ J=>?_;obtain rfl:=r₁.nl;unfold d8 at J;refine Ob (J) λps e _ _ _ _ q=>?_;obtain rfl:ps=[]:=by induction ps with
   |nil=>rfl
   |cons=>cases e
  have st:aU w h₀ (upd Y s.heap.objs.size (.dict [])) {s with heap:=s.heap.push {cls:=.type "dict",data:=.dict #[]}}/\aA aS Y s (upd Y s.heap.objs.size (.dict [])) {s with heap:=s.heap.push {cls:=.type "dict",data:=.dict #[]}}:=
   z.push (ob:={cls:=.type "dict",data:=.dict #[]}) (o:=.dict []) (n:=s.toks) rfl rfl λs' e G=>by exact rR e ⟨#[],0,QV _ rfl,.nil,SR⟩
  refine PN (Q7 ?_);show wpAny _ A (newDict) _ _ s;exact wpAny_newObj_type ⟨.ref s.heap.objs.size,_,st.1,U.trans st.2,⟨rfl,by refine rR bO ?_;rfl⟩,q _ (z.fresh (bH _))⟩
 refine wpAny_Dict_any f1 f2 hn (P6 (vB h).2) ?_;obtain⟨z,U⟩:=R.more (s':={s with heap:=s.heap.push {cls:=.type "dict",data:=.dict #[]}}) (λb o e=>Ql _ e) rfl rfl;have m:σ s.heap.objs.size=none:=R.fresh (bH _);have h0:h₀.get? s.heap.objs.size=none:=by
  cases e:h₀.get? s.heap.objs.size with
  |none=>rfl
  |some o=>have:=R.oldGet _ _ e;simp only[bH] at this;cases this
 have p:(s.heap.push {cls:=.type "dict",data:=.dict #[]}).get? s.heap.objs.size=some {cls:=.type "dict",data:=.dict #[]}:=QV _ rfl;refine Qj (pairsOk ex (he.ls g (L.grow U) z h1 q)) (λps oa XA=>oU XA λus l r u r₂ I=>?_) λa a x=>x;unfold d8 at I;refine Ob (I) λqs eq q1 q2 q3 q4 q5=>?_;have y:l s.heap.objs.size=none:=u.free _ _ p m;have k:oa.heap.get? s.heap.objs.size=some {cls:=.type "dict",data:=.dict #[]}:=u.keep _ _ (λh=>h) p m;refine xc (es:=[]) ⟨q4,Qc.mp q2,kinds_of q1,ID q3 dD⟩ (d9 g dD) y h0 rfl r k .nil (Bt eq r₂) λsa M VX B t i v=>⟨.ref s.heap.objs.size,_,(B.adopt (o:=.dict qs) y h0 i pU rfl ⟨M,VX,i,v,q4⟩),⟨λb o a e f=>?_,λb o e f=>?_,λb e=>iS (t.dom b (u.dom b e)),t.os.trans (u.os.trans rfl)⟩,⟨rfl,by refine rR bO ?_;rfl⟩,q5 _ y⟩
 ·have j:b≠s.heap.objs.size:=Q9 (RM e);have e1:=U.keep b o (λh=>h) e f;exact t.keep b o j (u.keep b o (λh=>h) e1 f) (u.free b o e1 f)
 have j:b≠s.heap.objs.size:=Q9 (RM e);exact rR (bT j) (u.free b o (U.keep b o (λh=>h) e f) f)) (λa a h=>(vB h).1) rfl λa a=>rfl
end
end
end
def cy(h:Heap)(it:Addr)(u:Value):V->Nat->Prop
 |.tup _,i=>∃a,u=.ref a/\h.IsTupleIter it a i
 |.rng n,i=>IsRangeIter h it i (n-i) 1
 |.ref a,i=>h.IsListIter it a i
 |.none,_=>False
 |.bool _,_=>False
 |.int _,_=>False
 |.str _,_=>False
 |.fro _,_=>False
theorem cy.keep(x:cy h it u v i)(k:∀o,h.get? it=some o->h'.get? it=some o):cy h' it u v i:=by
 cases v<;>simp only[cy] at x⊢
 ·exact am (x) λa M p=>PO (p) λo y=>⟨a,M,o,k o y.1,y.2⟩
 ·exact PO (x) λo U=>⟨o,k o U.1,U.2⟩
 exact k _ x
theorem cy.at(x:cy h it u v i):∃o,h.get? it=some o/\gU o:=by
 cases v<;>simp only[cy] at x
 ·exact am (x) λa e l=>nR (l) λo g z ao=>(aK o g ⟨λe=>(by rw[z] at e;simp at e),λe=>(by rw[z] at e;simp at e)⟩)
 ·exact nR (x) λo g z ao=>(aK o g ⟨λe=>(by rw[z] at e;simp at e),λe=>(by rw[z] at e;simp at e)⟩)
 exact(aK _ x ⟨λe=>(by simp at e),λe=>(by simp at e)⟩)
section
variable{prog:Program}{w:World}{h₀:Heap}{A:Around}
section
variable{σ:Hp}{s:Shared}{v:V}{u:Value}{l:Z7}
set_option tactic.hygienic true in
theorem zX{Q:V8}(R:aU w h₀ σ s)(r:aG σ s.heap v u)(B:cC σ v l)(q:∀ob,gU ob->ob.isFreed=false->cy (s.heap.push ob) s.heap.objs.size u v 0->Q (.ref s.heap.objs.size) {s with heap:=s.heap.push ob}):wpAny (model prog w) A (pyIter u) Q bE s:=by
 induction B with
 |tup=>
  refine zG (r.tup_inv) λa items n C _ ht _=>?_;subst C
  exact wpAny_pyIter_tuple ⟨_,ht,rfl,_,rfl⟩ (q _ ⟨λe=>by simp at e,λe=>by simp at e⟩ rfl ⟨a,rfl,_,QV _ rfl,rfl,rfl⟩)
 |rng f=>
  rename_i n
  refine NK (r) λa t x y G _ i=>rR G ?_
  have T:Builtin.Range.rangeSize 0 n 1=n:=by
   delta Builtin.Range.rangeSize
   by_cases h:0<n
   ·simp [h]
   ·have:n=0:=by exact Qz (lq (QU h)) dA
    refine rR this ?_;rfl
  have B:lim=1000000:=rfl
  refine wpAny_pyIter_range i ?_ (q _ ⟨λe=>by simp at e,λe=>by simp at e⟩ rfl ?_)
  ·delta Builtin.Range.small Builtin.Range.rangeFitsLong
   refine rR T ?_
   simp
   lia
  ·refine rR T ?_
   have:=QV s.heap (o:={cls:=.type "range_iterator",data:=.fields #[rawInt 0,rawInt n,rawInt 1]}) rfl
   simpa [cy] using this
 |list e=>
  exact rR r.ref_inv (am (R.lists e) λitems z i=>wpAny_pyIter_list z (q _ ⟨λe=>by simp at e,λe=>by simp at e⟩ rfl ⟨_,QV _ rfl,rfl,rfl⟩))
set_option tactic.hygienic true in
theorem sP{Q:X8->Shared->Prop}(R:aU w h₀ σ s)(r:aG σ s.heap v u)(t:cC σ v l)(hi:cy s.heap it u v i)(h:l[i]?=some x)(q:∀y h' b,aG σ s.heap x y->Heap.SameBut it s.heap h'->cy h' it u v (i+1)->Q (some y) {s with heap:=h',toks:=b}):wpAny (model prog w) A (pyNext (.ref it)) Q bE s:=by
 induction t with
 |tup=>
  refine zG (r.tup_inv) λa items n m _ ht k=>?_;subst m
  refine am (hi) λC e M=>?_
  cases e
  exact am (aG.list_get k h) λy B g=>wpAny_pyNext_tuple_item M ⟨_,ht,rfl,_,rfl⟩ B λh' L hs=>q y h' s.toks g hs ⟨_,rfl,L⟩
 |rng f=>
  rename_i n
  rw[QS,QZ] at h
  obtain⟨j,I,rfl⟩:=h
  obtain⟨c,I⟩:=Qi.mp I
  rw[T6] at I
  subst I
  simp only[QT] at c
  refine wpAny_pyNext_range_item hi (by omega) λh' L hs=>q _ h' _ bD hs ?_
  rw[show(n:Int)-(i:Int)-1=n-((i+1:Nat):Int) by lia] at L
  exact L
 |list e=>
  cases r.ref_inv
  exact am (R.lists e) λitems z k=>am (aG.list_get k h) λy B g=>wpAny_pyNext_list_item hi z B λh' L hs=>q y h' s.toks g hs L
theorem wM{Q:X8->Shared->Prop}(t:A.handled=none)(R:aU w h₀ σ s)(r:aG σ s.heap v u)(x:cC σ v l)(hi:cy s.heap it u v i)(j:l[i]?=none)(q:∀h',Heap.ExtBut it s.heap h'->Q none {s with heap:=h'}):wpAny (model prog w) A (pyNext (.ref it)) Q bE s:=by
 induction x with
 |tup=>refine zG (r.tup_inv) λa items n G _ ht h=>?_;subst G;refine am (hi) λy e L=>?_;cases e;exact wpAny_pyNext_tuple_end t L ⟨_,ht,rfl,_,rfl⟩ (by refine(Rc)▸?_;exact h.get_none i j) q
 |rng f=>rw[Se,PL,QT] at j;exact wpAny_pyNext_range_end t hi (by lia) q
 |list e=>cases r.ref_inv;exact am (R.lists e) λitems z h=>wpAny_pyNext_list_end t hi z (by refine(Rc)▸?_;exact h.get_none i j) q
theorem xz{E:V8}{Q:W8}(hi:cy s.heap it u v i)(q:Q () s):wpAny M A (letOwnedTupleGo t (.ref it) y) Q E s:=by
 have key:∀(n:String)(vs:Array Value)(o:Obj),s.heap.get? it=some o->o.cls=.type n->o.data=.fields vs->(["enumerate","zip","dict_itemiterator","dict_reverseitemiterator","odict_iterator","itertools.zip_longest","itertools.pairwise"].contains n)=false->
   wpAny M A (letOwnedTupleGo t (.ref it) y) Q E s:=λn vs o h B ao f=>by
  cases t<;>first|exact Qa q|skip
  all_goals
   induction y<;>first|exact Qa q|skip
   show wpAny M A (load it>>=_) Q E s
   refine PN (wpAny_load h ?_)
   refine rR B (rR ao ?_)
   dsimp only
   rw[f,SA]
   exact Qa q
 cases v<;>simp only[cy] at hi
 ·exact am (hi) λa e p=>nR (p) λo z g Y=>key _ _ o z g Y dD
 ·exact nR (hi) λo J r k=>key _ _ o J r k dD
 exact key _ _ _ hi rfl rfl dD
end
mutual
noncomputable def lI:Z8->Nat->V6->Z8
 |[],_,_=>[]
 |x::r,n,v=>n.casesOn (v::r) λn=>x::lI r n v
theorem cz:∀(ρ:Z8)(i:Nat)(v:V),set ρ i v=lI ρ i (some v)
 |[],_,_=>rfl
 |_::_,0,_=>rfl
 |_::r,n+1,v=>PR _ (cz r n v)
theorem eI:∀(ρ:Z8)(i:Nat)(v u:V6),lI (lI ρ i v) i u=lI ρ i u
 |[],_,_,_=>rfl
 |_::_,0,_,_=>rfl
 |_::r,n+1,v,u=>PR _ (eI r n v u)
theorem ir:∀(ρ:Z8)(i j:Nat)(v u:V6),i≠j->lI (lI ρ i v) j u=lI (lI ρ j u) i v
 |[],_,_,_,_,_=>rfl
 |_::_,0,0,_,_,h=>VC rfl h
 |_::_,0,_+1,_,_,_=>rfl
 |_::_,_+1,0,_,_,_=>rfl
 |_::r,i+1,j+1,v,u,h=>PR _ (ir r i j v u λe=>h (PR _ e))
theorem kL:∀(ρ:Z8)(i:Nat),get (lI ρ i none) i=none
 |[],_=>rfl
 |_::_,0=>rfl
 |_::r,n+1=>kL r n
theorem jA:∀(ρ:Z8)(i j:Nat)(v:V6),j≠i->get (lI ρ i v) j=get ρ j
 |[],_,_,_,_=>rfl
 |_::_,0,0,_,h=>VC rfl h
 |_::_,0,_+1,_,_=>rfl
 |_::_,_+1,0,_,_=>rfl
 |_::r,i+1,j+1,v,h=>jA r i j v λe=>h (PR _ e)
noncomputable def erase:List (Str×Nat)->Z8->Z8
 |[],ρ=>ρ
 |p::r,ρ=>lI (erase r ρ) p.2 none
theorem mQ:∀{ps:List (Str×Nat)}{ρ:Z8}{p:Str×Nat},p∈ps->get (erase ps ρ) p.2=none
 |q::r,ρ,p,h=>by
  unfold erase;by_cases e:p.2=q.2
  ·exact rR e (kL ..)
  refine rR (jA _ _ _ _ e) ?_;rcases P0.mp h with rfl|h
  ·exact VC rfl e
  exact mQ h
theorem sf:∀{ps:List (Str×Nat)}{ρ:Z8}{i:Nat},(∀p∈ps,i≠p.2)->get (erase ps ρ) i=get ρ i:=by
 intro l;induction l with
 |nil=>intro _ _ _;exact rfl
 |cons q r ih=>intro ρ i h;unfold erase;exact rR (jA _ _ _ _ (h q (.head _))) (ih λp v=>h p (.tail _ v))
def zB(p:pa)(ρ c:Z8):=∀v R,nK p v ρ R->nK p v c R
theorem xU(h:cA p t=some ps)(ρ:Z8):zB p ρ (erase ps ρ):=λv R q=>by
 induction p with
 |one i=>refine eA (uM h) λn p u T=>?_;subst u;refine rR T (?_:R (set (lI ρ i none) i v));rw[cz,eI,<-cz];exact q
 |two i j=>refine Ng (pg h) λn m _ _ _ _ l e _ g=>?_;subst l;refine rR e ?_;obtain⟨a,b,rfl,q⟩:=q;refine⟨a,b,rfl,?_⟩;show R (set (set (lI (lI ρ j none) i none) i a) j b);rw[cz,cz,eI,ir _ i j _ _ g,eI,ir ρ j i _ _ (SX g),<-cz,<-cz];exact q
theorem yg(h:cA p t=some ps){R:Env->Prop}(e:zB p ρ₀ ρ)(q:nK p v ρ R):nK p v ρ λc=>zB p ρ₀ c/\R c:=by
 induction p with
 |one i=>refine⟨λu o z=>?_,q⟩;have z:=e u o z;show o (set (set ρ i v) i u);rw[cz,cz,eI,<-cz];exact z
 |two i j=>refine Ng (pg h) λn m _ _ _ _ L B _ g=>?_;subst L;subst B;obtain⟨a,b,rfl,q⟩:=q;refine⟨a,b,rfl,λu o k=>?_,q⟩;refine eA (e u o k) λx b' s z=>rR s ⟨x,b',rfl,?_⟩;show o (set (set (set (set ρ i a) j b) i x) j b');rw[cz,cz,cz,cz,ir _ j i _ _ (SX g),eI,eI,<-cz,<-cz];exact z
def JH(sc:Sc)(env:PySem.Env)(ps:List (Str×Nat))(b:Addr):=∃p∈ps,M3 sc env p.1 b
end
section
variable{σ:Hp}{s:Shared}{sc:Sc}{env:PySem.Env}{ρ:Z8}
theorem nP{P:Env->Prop}{Q:W8}(hp:cA p t=some ps)(B:∀q∈ps,sc.slots.lookup q.1=some q.2/\(sc.names.lookup q.1=some .local\/sc.names.lookup q.1=some .cell)/\sg sc q.1 q.2=true)(hh:A.handled=none)(L:Loc sc env h₀ s.heap σ ρ)(R:aU w h₀ σ s)(r:aG σ s.heap v u)(hb:nK p v ρ P)(k:∀s' Yb,aU w h₀ σ s'->aA (JH sc env ps) σ s σ s'->Loc sc env h₀ s'.heap σ Yb->P Yb->Q () s'):wpAny (model prog w) A (assign t env u) Q bE s:=by
 induction p with
 |one i=>refine eA (uM hp) λn p d g=>rR d ?_;subst g;exact DP (B _ (.head _)) λh1 h2 h3=>Tq (gm L R h1 h2 h3 r λs' R' G L'=>k s' _ R' (G.weaken λb ø ø x=>⟨_,.head _,x⟩) L' hb)
 |two i j=>refine Ng (pg hp) λx y px py kk pt h l _ ZQ=>rR h ?_;subst l;obtain⟨a,b,rfl,hb⟩:=hb;refine zG (r.tup_inv) λT items n Y _ ht hl=>rR Y (wpAny_assign_Tuple hh ⟨_,ht,rfl,_,rfl⟩ (by refine(Qe ((bz hl)))▸?_;rfl) rfl λh' hx=>?_);refine dQ (R.more (s':={s with heap:=h'}) (λb o e=>hx b o (Q9 (RM e)) e:∀b o,s.heap.get? b=some o->h'.get? b=some o) rfl rfl) λJ U=>?_;have m:Loc sc env h₀ h' σ ρ:=L.grow U;generalize items.toList=vs at hl;refine hl.two (P:=λvs=>wpAny (model prog w) A (assignInOrder ((assignEach [.Name x px,.Name y py] env).map (·.2)) vs) Q bE {s with heap:=h'}) λua ub ra rb=>DP (B (x,i) (.head _)) λh1 h2 h3=>?_;obtain⟨h4,h5,h6⟩:=B (y,j) (.tail _ (.head _));show wpAny _ A (holding [ub] (assign (.Name x px) env ua)>>=_) _ _ _;refine PN (Qr (Tq (gm (s:={s with heap:=h'}) m J h1 h2 h3 (ra.grow U aP.none) λoa M z f=>?_)));refine PN (Qr (Tq (gm f M h4 h5 h6 ((rb.grow U aP.none).grow z λc o x=>m.fram c o x.own:aG σ oa.heap b ub) λsa N C I=>Qa (k sa _ N ?_ I hb))));refine U.transN (aA.transX (z.weaken λb ø ø x=>⟨_,.head _,x⟩) (C.weaken λb ø ø x=>⟨_,.tail _ (.head _),x⟩) λc hc=>?_);exact am (hc) λq _ hq=>am (f.at hq.own) λo ho _=>⟨o,ho⟩
noncomputable def jg(cells:List (Str×Addr)):List (Str×NameKind)->List (Str×Addr)->List (Str×Addr)
 |[],acc=>acc
 |(n,k)::r,acc=>if k==.free then(match cells.lookup n with
  |some c=>jg cells r ((n,c)::acc)
  |none=>jg cells r acc) else jg cells r acc
theorem rV(h:∀p∈scope.names,p.2=.free->(env.cells.lookup p.1).isSome=true):closureFor scope env=pure (jg env.cells scope.names []):=by
 have key:∀(l:List (Str×NameKind))(f:Str×NameKind->List (Str×Addr)->Sem (ForInStep (List (Str×Addr)))),(∀p∈l,p.2=.free->(env.cells.lookup p.1).isSome=true)->
   (∀n k acc,f (n,k) acc=if k==.free then(do let c<-cellOf env n;pure (.yield ((n,c)::acc))) else pure (.yield acc))->∀acc,forIn l acc f=pure (jg env.cells l acc):=by
  intro l f t i
  induction l with
  |nil=>intro acc;rfl
  |cons p r ih=>
   obtain⟨n,k⟩:=p;intro acc;have v:=ih λp x=>t p (.tail _ x);simp only[SJ,i];unfold jg;by_cases d:k=.free
   ·subst d;obtain⟨c,z⟩:=Q3.mp (t _ (.head _) rfl);unfold cellOf;exact rR z (v _)
   have:(k==NameKind.free)=false:=by simpa using d
   rw[this];exact v _
 simp only[closureFor];rw[key scope.names _ h (λn k acc=>by cases d:k==NameKind.free<;>simp [d])];rfl
theorem jS:∀{l:List (Str×NameKind)}{acc:List (Str×Addr)},(∀p∈acc,cells.lookup p.1=some p.2)->∀p∈jg cells l acc,cells.lookup p.1=some p.2
 |[],_,h=>h
 |(n,k)::r,acc,h=>by
  unfold jg;split
  ·split
   ·rename_i c z;refine jS λp v=>?_;rcases P0.mp v with rfl|v
    ·exact z
    exact h p v
   exact jS h
  exact jS h
theorem iX:∀{l:List (Str×NameKind)}{acc:List (Str×Addr)}{x:Str},(acc.lookup x).isSome=true->((jg cells l acc).lookup x).isSome=true
 |[],_,_,h=>h
 |(n,k)::r,acc,x,h=>by
  unfold jg;split
  ·split
   ·refine iX ?_;simp only[QX];split
    ·rfl
    exact h
   exact iX h
  exact iX h
theorem jp:∀{l:List (Str×NameKind)}{acc:List (Str×Addr)}{x:Str},(x,NameKind.free)∈l->(cells.lookup x).isSome=true->((jg cells l acc).lookup x).isSome=true
 |(n,k)::r,acc,x,h,hx=>by
  unfold jg;refine RD (P0.mp h) (λe=>?_) λh=>?_
  ·cases e;obtain⟨c,z⟩:=Q3.mp hx;simp only[SB,if_true,z];exact iX (by simp)
  split
  ·split
   ·exact jp h hx
   exact jp h hx
  exact jp h hx
theorem rq:(ot sc l).lookup x=(l.lookup x).map λk=>if(k==.free&&sc.names.lookup x==some .cell)=true then .cell else k:=by
 induction l with
 |nil=>rfl
 |cons p r ih=>
  have e:ot sc (p::r)=(p.1,if(p.2==.free&&sc.names.lookup p.1==some .cell)=true then .cell else p.2)::ot sc r:=PR (· ::ot sc r) (apply_ite (Prod.mk p.1) _ _ _).symm;refine rR e (rR QX (rR QX (rR ih ?_)));cases h:x==p.1 with
  |true=>refine rR (Qd.mp h) ?_;rfl
  |false=>rfl
theorem iL(h:(ot sc l).lookup x=some k):(l.lookup x=some k)\/(k=.cell/\l.lookup x=some .free/\sc.names.lookup x=some .cell):=by
 rw[rq] at h;refine am (QZ.mp h) λk' e h=>?_;by_cases c:(k'==.free&&sc.names.lookup x==some .cell)=true
 ·rw[PW c] at h;have c:=vB c;exact .inr ⟨h.symm,e.trans (PR some (Qd.mp c.1)),Qd.mp c.2⟩
 rw[PV c] at h;exact .inl (sB h e)
theorem g8{t:Type}:∀{l r:List (Str×t)}{x:Str},(l++r).lookup x=(match l.lookup x with|some v=>some v|none=>r.lookup x)
 |[],_,_=>rfl
 |(n,v)::l,r,x=>by
  simp only[Uw,QX,QX];cases x==n with
  |true=>rfl
  |false=>exact g8
theorem Ef(L:Loc sc env h₀ s.heap σ ρ)(hs:gL sc scope ps=true)(hC:σ C=none)(h0:h₀.get? C=none)(hn:s.heap.Ns C (λg=>none)):
  Loc (gS sc scope ps) (compEnvC scope (jg env.cells scope.names []) C env) h₀ s.heap σ (erase ps ρ):=by
 simp only[gL,QW,Qd,Qc] at hs
 refine dQ (hs) λG B=>dQ (G) λhk f=>?_
 have sub:∀x c,(jg env.cells scope.names []).lookup x=some c->env.cells.lookup x=some c:=λx c e=>jS (acc:=[]) (λg h=>nomatch h) (x,c) (Rv e)
 have d:∀x,(ot sc scope.names).lookup x=some .cell->(x,NameKind.free)∈scope.names/\sc.names.lookup x=some .cell:=λx l=>by
  rcases iL l with h|⟨_,I,h2⟩
  ·have:=(f _ (Rv h)).1.1.1;simp at this
  exact⟨Rv I,h2⟩
 refine⟨?_,?_,L.glob,L.blt,(aK _ hn (λx i v a b c=>?_)),λx c e=>L.cells x c (sub x c e),λx i v a b c=>?_,λb o=>?_,λx y c e e'=>L.apart x y c (sub x c e) (sub y c e'),λx l=>?_⟩
 ·exact hk
 ·show(relabel scope env).names=ot sc scope.names;refine QM λp g=>?_;obtain⟨n,k⟩:=p;simp only[L.kind,L.kindOf,SB,TJ]
 ·exfalso;have Q:scope.names.lookup x=some .local:=by
   rcases iL c with h|⟨h,_⟩
   ·exact h
   cases h
  have l:=(f _ (Rv Q)).2;simp only[gS,g8] at a;cases e:ps.lookup x with
  |some j=>simp only[e] at a;cases a;have:=mQ (ρ:=ρ) (Rv e);simp only[this] at b;cases b
  |none=>simp only[e] at a;simp only[e] at l;have M:(sc.slots.lookup x==none)=true:=l;simp only[Qd] at M;simp only[M] at a;cases a
 ·refine dQ (d x c) λt z=>?_;have N:∀p∈ps,x≠p.1:=λp J e=>by
   have I:=(B p J).1.1;rcases iL c with h|⟨_,h,_⟩
   ·simp only[e,I] at h;cases h
   simp only[e,I] at h;cases h
  have hl:ps.lookup x=none:=by
   cases e:ps.lookup x with
   |none=>rfl
   |some j=>exact VC rfl (N _ (Rv e))
  have U:sc.slots.lookup x=some i:=by simp only[gS,g8] at a;simp only[hl] at a;exact a
  simp only[sf (λp J=>lX (B p J).1.2 a (N p J):∀p∈ps,i≠p.2)] at b;refine dg (L.cel x i v U b z) λY u e T r=>?_;obtain⟨q,m⟩:=Q3.mp (jp (acc:=[]) t (L.has x z));have:=sub x q m;simp only[e] at this;cases this;exact(ng Y u m T r)
 ·rcases o with rfl|⟨x,l⟩
  ·exact⟨hC,h0⟩
  exact L.own b (.inr ⟨x,sub x b l⟩)
 ·exact dQ (d x l) λt z=>jp (acc:=[]) t (L.has x z)
end
theorem rQ{R:Result->Shared->Prop}(I:Nat->Shared->Prop)(d:∀n s,I n s->wpAny (model prog w) A (pyNext it) (λr s₁=>match r with
   |none=>R (.ok .next) s₁
   |some v=>wpAny (model prog w) A (letOwnedTupleGo target it v) (λa j=>wpAny (model prog w) A (assign target env v) (λa o=>
     wpAny (model prog w) A (forIn ifs true (yH env)) (λy J=>
      if y=true then wpAny (model prog w) A (eval elt env) (λx e=>
       wpAny (model prog w) A (call (.builtin "list.append") [acc,x]) (λa N=>∃m,m<n/\I m N) bE e) bE J
      else∃m,m<n/\I m J) bE o) bE j) bE s₁) bE s)(n:Nat)(h:I n s):codeAny (model prog w) A (.compLoop (.ListComp elt [⟨target,iter,ifs,0⟩] scope pos) 0 it acc env) R s:=by
 refine codeAny_loop rfl I (λn s z=>?_) n h
 show wpAny _ A ((compTurn (.ListComp elt [⟨target,iter,ifs,0⟩] scope pos) 0 it acc env).onRaise (λx=>do noteFrame x env;theTreesLotGoes x)) _ _ s
 refine wpAny_noted ?_
 rw[compTurn_list]
 refine PN (Q7 (PN (Qj (d n s z) (λr s₁ h₁=>?_) λa a h'=>h'.elim)))
 induction r with
 |none=>exact Qa h₁
 |some v=>
  refine PN (Qj h₁ (λa j u=>?_) λa a h'=>h'.elim);refine PN (Qj u (λa o T=>?_) λa a h'=>h'.elim);refine PN (Qj T (λy J t=>?_) λa a h'=>h'.elim);induction y with
  |false=>exact Qa ⟨rfl,by simpa using t⟩
  |true=>exact PN (PN (Qj t (λx e p=>PN (Qj p (λa N c=>Qa (Qa ⟨rfl,c⟩)) λa a h'=>h'.elim)) λa a h'=>h'.elim))
theorem FS{E:V8}{Q:V8}(x:cy s.heap it u v i)(q:Q (.ref it) s):wpAny (model prog w) A (pyIter (.ref it)) Q E s:=by
 cases v<;>first|exact False.elim x|skip
 ·exact am (x) λa e x=>wpAny_pyIter_tupleiter x q
 ·exact wpAny_pyIter_listiter x q
 exact wpAny_pyIter_rangeiter x q
theorem aA.skip{X:Addr->Prop}{σ s ma s' σ'' s''}(a:aA aS σ s ma s')(b:aA X ma s' σ'' s'')(i:∀x,X x->s.heap.get? x=none):aA aS σ s σ'' s'':=
 ⟨λx o c e f=>b.keep x o (λh=>by replace e:=(i x h)▸e;cases e) (a.keep x o (λh=>h) e f) (a.free x o e f),
  λx o e f=>b.free x o (a.keep x o (λh=>h) e f) (a.free x o e f),λx e=>b.dom x (a.dom x e),b.os.trans a.os⟩
end
section
variable{prog:Program}{w:World}{h₀:Heap}{T:nc}{G:W7}{N:V7}{C:cj}{d:Nat}{K:Frag}
theorem yP{Q:V8}(R:aU w h₀ σ s)(f:σ D=none)(I:h₀.get? D=none)(g:s.heap.get? D=some (listOf items n))(hz:items.size<=lim)(q:∀s' i,aU w h₀ σ s'->aA (λb=>b=D) σ s σ s'->s'.heap.get? D=some (listOf (items.push u) i)->Q .none s'):wpAny (model prog w) A (call (.builtin "list.append") [.ref D,u]) Q bE s:=by
 refine Vz T5 ⟨_,g,rfl⟩ Vc (UT _ _) (list_append D items n u (gf hz)) ⟨g,?_⟩
 have y:∀o,s.heap.get? D=some o->gU o:=λo e=>by replace e:=(g)▸e;cases e;exact⟨λe=>by simp at e,λe=>by simp at e⟩
 exact dQ (eV (n:=s.toks) (h':=s.heap.update D (Obj.mapSeq λxs=>xs.push u)) R ⟨f,I⟩ y λx o h e=>(R3 ..).extBut x o h e) λp m=>q _ _ p m (RF _ g (T4 rfl))
theorem Gq(hs:gL sc scope ps=true):∀q∈ps,(gS sc scope ps).slots.lookup q.1=some q.2/\(gS sc scope ps).names.lookup q.1=some .local/\sg (gS sc scope ps) q.1 q.2=true:=λq e=>
 ⟨Qd.mp (vB (Qc.mp (vB hs).2 q e)).2,rq.trans (PR (Option.map _) (Qd.mp (vB (vB (Qc.mp (vB hs).2 q e)).1).1)),(vB (vB (Qc.mp (vB hs).2 q e)).1).2⟩
structure Fx(h₀:Heap)(s:Shared)(I D Cc:Addr)(e:PySem.Env):Prop where
 i:s.heap.get? I=none
 d:s.heap.get? D=none
 c:s.heap.get? Cc=none
 i0:h₀.get? I=none
 d0:h₀.get? D=none
 id:I≠D
 ic:I≠Cc
 dc:D≠Cc
 own:∀b,jf e b->b=Cc\/∃o,s.heap.get? b=some o
 cc:jf e Cc
structure Tn(w:World)(h₀:Heap)(ia:Hp)(s₁:Shared)(sc:Sc)(e:PySem.Env)(I D:Addr)(u:Value)(v:V)(i:Nat)(σ:Hp)(s:Shared)(acc:Z7)(ρ:Z8):Prop where
 R:aU w h₀ σ s
 G:aA aS ia s₁ σ s
 L:Loc sc e h₀ s.heap σ ρ
 it:cy s.heap I u v i
 fI:σ I=none
 fD:σ D=none
 d:∃items n,s.heap.get? D=some (listOf items n)/\an (aG σ s.heap) acc items.toList
 al:acc.length<=i
 r:aG σ s.heap v u
section
variable{U σ T:Hp}{s₁ s s':Shared}{sc:Sc}{e:PySem.Env}{I D Cc:Addr}{u:Value}{v:V}{i j:Nat}{acc:Z7}{ρ Q:Z8}
theorem Tn.grow(t:Tn w h₀ U s₁ sc e I D u v i σ s acc ρ)(R:aU w h₀ T s')(G:aA aS σ s T s'):Tn w h₀ U s₁ sc e I D u v i T s' acc ρ where
 R:=R
 G:=t.G.trans G
 L:=t.L.grow G
 it:=t.it.keep λa g=>G.keep I _ (λh=>h) g t.fI
 fI:=t.it.at.elim λa z=>G.free I _ z.1 t.fI
 fD:=t.d.elim λa z=>z.elim λa z=>G.free D _ z.1 t.fD
 d:=t.d.elim λa z=>z.elim λa z=>(rS _ _ (G.keep D _ (λh=>h) z.1 t.fD) (z.2.mono λa a z=>z.grow G aP.none))
 al:=t.al
 r:=t.r.grow G aP.none
theorem Tn.upd(t:Tn w h₀ U s₁ sc e I D u v i σ s acc ρ)(R:aU w h₀ σ s')(G:aA (λb=>b=Y) σ s σ s')(F:aP s.heap λb=>b=Y)(q:s₁.heap.get? Y=none)(L:Loc sc e h₀ s'.heap σ Q)(it:cy s'.heap I u v j)(c:D≠Y)(m:i<=j):Tn w h₀ U s₁ sc e I D u v j σ s' acc Q where
 R:=R
 G:=t.G.skip G λa h=>h▸q
 L:=L
 it:=it
 fI:=t.fI
 fD:=t.fD
 d:=t.d.elim λa z=>z.elim λa z=>(rS _ _ (G.keep D _ c z.1 t.fD) (z.2.mono λa a z=>z.grow G F))
 al:=ID t.al m
 r:=t.r.grow G F
theorem Fx.off(X:Fx h₀ s₁ I D Cc e)(A:Y≠Cc)(q:s₁.heap.get? Y=none):∀b,jf e b-> ¬b=Y:=λb f z=>by subst z;exact(X.own b f).elim A λz=>z.elim λo g=>nomatch q.symm.trans g
theorem Tn.inI(t:Tn w h₀ U s₁ sc e I D u v i σ s acc ρ):∀o,s.heap.get? I=some o->gU o:=λo x=>t.it.at.elim λo' z=>sB (Qh (z.1.symm.trans x)) z.2
end
mutual
inductive Jn(w:World)(h₀:Heap)(T:nc)(C:cj)(el co:Internal.E)(ia:Hp)(s₁:Shared)(sc:Sc)(e:PySem.Env)(I D:Addr)(u:Value)(v:V)(p:pa)(ρ:Z8)(Q:Z7->Hp->Prop)(l:Z7)(k:Nat)(s:Shared):Prop
 |mk {i:Nat} {σ:Hp} {acc:Z7} {Yb:Z8} (hk:k=l.length+1-i) (hi:i<=l.length) (t:Tn w h₀ ia s₁ sc e I D u v i σ s acc Yb) (b:zB p ρ Yb) (q:xv (wU (cP T C el) p (Bv T C co) ρ) (λσ=>cC σ v l) Q (l.drop i) acc σ)
theorem AS(Yh:Ok prog w h₀ T G N C d el)(Zh:Ok prog w h₀ T G N C d co){Q':Z7->Hp->Prop}{RR:Result->Shared->Prop}(g:Good d A)(X:Fx h₀ s₁ I D Cc env)(hp:cA p t=some ps)(ct:∀q∈ps,sc.slots.lookup q.1=some q.2/\sc.names.lookup q.1=some .local/\sg sc q.1 q.2=true)(hC:env.locals=Cc)(he:aE G N el sc e=true)(hi:cV G N co sc ifs=true)(hz:l.length<=lim)(h0:Jn w h₀ T C el co ia s₁ sc env I D u v p ρ Q' l (l.length+1) s₀)(YA:∀s' r ys items n m,aU w h₀ r s'->aA aS ia s₁ r s'->r D=none->s'.heap.get? D=some (listOf items n)->an (aG r s'.heap) ys items.toList->s'.heap.Ns Cc m->r Cc=none->Q' ys r->RR (.ok .next) s'):
  codeAny (model prog w) A (.compLoop (.ListComp e [⟨t,it₀,ifs,0⟩] scope pos) 0 (.ref I) (.ref D) env) RR s₀:=by
 refine rQ (Jn w h₀ T C el co ia s₁ sc env I D u v p ρ Q' l) (λk s' ⟨hk,cl,t,hb,f⟩=>?_) (l.length+1) h0
 rename_i i r acc Yb
 cases hx:l[i]? with
 |none=>rw[UZ.mpr (Se.mp hx)] at f;refine wM g.1 t.R t.r f.1 t.it hx λh' jl=>?_;have RG:=eV (n:=s'.toks) t.R ⟨t.fI,X.i0⟩ t.inI (h':=h') λb o ci x=>jl b o ci x;have L:aP s'.heap (λb=>b=I):=λb o e' a=>t.inI o (e'▸a);exact t.L.ns.elim λm hn=>t.d.elim λitems z=>z.elim λn z=>YA _ r acc items n m RG.1 (t.G.skip RG.2 λb e'=>e'▸X.i) t.fD (jl D _ (SX X.id) z.1) (z.2.mono λø ø x=>x.grow RG.2 L) (sB hC (hn.1.extBut jl (hC▸SX X.ic))) (t.L.own Cc X.cc).1 f.2
 |some x=>
  have Xf:i<l.length:=(Qi.mp hx).1;rw[RE Xf,(Qi.mp hx).2] at f;refine sP t.R t.r f.1 t.it hx λy h' tk ZA ql Q=>?_;have RG:=eV (n:=tk) t.R ⟨t.fI,X.i0⟩ t.inI (h':=h') λb o ci x=>ql.extBut b o ci x;have L:aP s'.heap (λb=>b=I):=λb o e' a=>t.inI o (e'▸a);have U:=t.upd (j:=i+1) RG.1 RG.2 L X.i (t.L.growX RG.2 L (X.off X.ic X.i)) Q (SX X.id) (Qt i);refine xz (s:={s' with heap:=h',toks:=tk}) Q (nP (s:={s' with heap:=h',toks:=tk}) hp (λq f=>⟨(ct q f).1,.inl (ct q f).2.1,(ct q f).2.2⟩) g.1 U.L RG.1 (ZA.grow RG.2 L) (yg hp hb (hb x _ f.2)) λZf Wg Zb Zd bc f=>?_);have c:aA (λb=>b=Cc) r {s' with heap:=h',toks:=tk} r Zf:=Zd.weaken λb ø ø x=>(λb TB=>am TB λq f hb=>hb.elim (λz=>z.2.trans hC) λz=>nomatch (ct q f).2.1.symm.trans z.1:∀b,JH sc env ps b->b=Cc) b x;have We:=U.upd Zb c (λb o e' a=>U.L.fram b o (e'▸X.cc) a) X.c bc (U.it.keep λo a=>c.keep I o X.ic a t.fI) X.dc (PD _);refine Qj (Zh.ks g bc Zb hi f.2) (λb WB z=>z.elim λXg z=>?_) λø ø x=>x;have Y:=We.grow z.1 z.2.1;induction b with
  |false=>exact(PV PC).mpr (aK _ (hk▸ST _ _ (RX Xf)) (.mk rfl Xf Y f.1 z.2.2))
  |true=>
   refine(PW rfl).mpr (aQ.go (Yh.ev g Y.L Y.R he z.2.2) λz XB zv DR wl YB ZB WC=>?_);have J:=Y.grow wl YB;refine J.d.elim λitems B=>B.elim λn B=>yP wl J.fD X.d0 B.1 (rR (bz B.2) (ID t.al (ID cl hz))) λWX n' XC h Wl=>?_;have M:aP XB.heap (λb=>b=D):=λb o e' a=>by subst e';rw[B.1] at a;cases a;exact⟨λe=>by simp at e,λe=>by simp at e⟩
   refine(aK _ (hk▸ST _ _ (RX Xf)) (.mk rfl Xf ⟨XC,J.G.skip h λb e'=>e'▸X.d,J.L.growX h M (X.off X.dc X.d),J.it.keep λo a=>h.keep I o X.id a J.fI,J.fI,J.fD,⟨_,n',Wl,?_⟩,?_,J.r.grow h M⟩ f.1 WC))
   ·exact rR Uj ((B.2.mono λø ø z=>z.grow h M).append (.cons (ZB.grow h M) .nil))
   exact rR PQ (Qn t.al)
theorem tB(Yh:Ok prog w h₀ T G N C d el)(Zh:Ok prog w h₀ T G N C d co){Q':Z7->Hp->Prop}{RR:Value->Addr->Result->Shared->Prop}(g:Good d A)(L:Loc sc env h₀ s₁.heap ia ρ)(R:aU w h₀ ia s₁)(hp:cA p t=some ps)(hs:gL sc scope ps=true)(he:aE G N el (gS sc scope ps) e=true)(hi:cV G N co (gS sc scope ps) ifs=true)(r:aG ia s₁.heap v u)(hl:cC ia v l)(hz:l.length<=lim)(q:xv (wU (cP T C el) p (Bv T C co) ρ) (λσ=>cC σ v l) Q' l [] ia)(YA:∀D Cc s' y ys items n m,s₁.heap.get? D=none->s₁.heap.get? Cc=none->D≠Cc->aU w h₀ y s'->aA aS ia s₁ y s'->y D=none->s'.heap.get? D=some (listOf items n)->an (aG y s'.heap) ys items.toList->s'.heap.Ns Cc m->y Cc=none->Q' ys y->RR (.ref D) Cc (.ok .next) s'):
  wpAny (model prog w) A (pyIter u) (λit oa=>wpAny (model prog w) A (newList []) (λacc sa=>wpAny (model prog w) A (newFunctionEnv scope env.globals (jg env.cells scope.names []) [] env.qual none .none (some env)) (λi md=>
   codeAny (model prog w) A (.compStart (.ListComp e [⟨t,it₀,ifs,0⟩] scope pos) 0 it acc {i with scope:=relabel scope env}) (RR acc i.locals) md) bE sa) bE oa) bE s₁:=by
 refine zX R r hl λob VR WR Q=>Uo ?_ (PY _)
 refine wpAny_newFunctionEnv (λx hx=>ne_of_beq_false ((QD _).mp (vB (vB (vB (Qc.mp (vB (vB hs).1).2 x hx)).1).1).1):∀x∈scope.names,x.2≠.cell) (bP) (λh₁ Y B=>?_) (Qd.mp (vB (vB hs).1).1)
 dsimp only at Y B⊢
 generalize J:s₁.heap.push ob=H1 at Q Y B⊢
 have hD:H1.objs.size=s₁.heap.objs.size+1:=by rw[<-J,UV]
 generalize M:H1.push {cls:=.type "list",dict:=none,data:=.seq ([]:X9).toArray}=H2 at Y B⊢
 have U:H2.objs.size=s₁.heap.objs.size+2:=by rw[<-M,UV,hD]
 have up:∀b o,b<H2.objs.size->H1.get? b=some o->h₁.get? b=some o:=λb o Xf x=>B.extBut b o (Q9 Xf) (Ql _ (M▸Ql _ x))
 have old:∀b o,s₁.heap.get? b=some o->h₁.get? b=some o:=λb o x=>up b o (U▸Nat.lt_add_right 2 (RM x)) (J▸Ql _ x)
 have j:cy h₁ s₁.heap.objs.size u v 0:=Q.keep λo x=>up _ o (U▸RY dD) x
 have XR:h₁.get? H1.objs.size=some (listOf #[] 0):=B.extBut _ _ (by refine rR U (rR hD ?_);exact Q9 (QF _)) (Ql _ (M▸QV _ rfl))
 clear J M B Q VR WR up
 rw[U] at Y
 rw[hD] at XR
 show codeAny (model prog w) A (.compStart (.ListComp e [⟨t,it₀,ifs,0⟩] scope pos) 0 (.ref s₁.heap.objs.size) (.ref H1.objs.size) (compEnvC scope (jg env.cells scope.names []) H2.objs.size env)) (RR (.ref H1.objs.size) H2.objs.size) _
 rw[hD,U]
 have fr:∀k,s₁.heap.get? (s₁.heap.objs.size+k)=none:=λk=>lH (PM _ k)
 have EA:∀k,h₀.get? (s₁.heap.objs.size+k)=none:=λk=>by
  cases e:h₀.get? (s₁.heap.objs.size+k) with
  |none=>rfl
  |some o=>exact nomatch (fr k).symm.trans (R.oldGet _ _ e)
 have RG:=R.more (s':={s₁ with heap:=h₁,toks:=s₁.toks+([]:List (Str×Value)).length}) old rfl rfl
 have loop:=AS (s₁:=s₁) (I:=s₁.heap.objs.size) (D:=s₁.heap.objs.size+1) (Cc:=s₁.heap.objs.size+2) (env:=compEnvC scope (jg env.cells scope.names []) (s₁.heap.objs.size+2) env) (it₀:=it₀) (scope:=scope) (pos:=pos) (RR:=RR (.ref (s₁.heap.objs.size+1)) (s₁.heap.objs.size+2)) Yh Zh g ⟨fr 0,fr 1,fr 2,EA 0,EA 1,Q9 (QF _),Q9 (RY dD),Q9 (QF _),λb hb=>hb.imp (λz=>z) λYC=>jn YC λx hx=>by
   exact am (L.at (.inr ⟨x,jS (acc:=[]) (λø h=>nomatch h) (x,b) (Rv hx)⟩)) λo ho _=>⟨o,ho⟩,.inl rfl⟩ hp (Gq hs) rfl he hi hz
  (.mk rfl (PY _) ⟨RG.1,RG.2,(Ef (s:={s₁ with heap:=h₁,toks:=s₁.toks+([]:List (Str×Value)).length}) (L.grow RG.2) hs (R.fresh (fr 2)) (EA 2) Y),j,R.fresh (fr 0),R.fresh (fr 1),(rS (#[]) 0 XR .nil),PD _,r.grow RG.2 aP.none⟩ (xU hp ρ) q)
  λs' y ys items n m a b c d e f g h=>YA _ _ s' y ys items n m (fr 1) (fr 2) (Q9 (QF _)) a b c d e f g h
 exact codeAny_compStart_list loop (FS (s:={s₁ with heap:=h₁,toks:=s₁.toks+([]:List (Str×Value)).length}) j loop)
theorem gY(h:qo x=true)(v:Value):foldedSetIterable x env v=pure v:=by cases x<;>first|rfl|(exact VC h PC)
structure Ie(G:W7)(N:V7)(sc:Sc)(el:Internal.E)(p:pa)(it co:Internal.E)(e:Expr)(gs:List Comprehension)(scope:Scope):Prop where
 ex:∃t ix ifs ps,gs=[⟨t,ix,ifs,0⟩]/\cA p t=some ps/\aE G N it sc ix=true/\qo ix=true/\gL sc scope ps=true/\aE G N el (gS sc scope ps) e=true/\cV G N co (gS sc scope ps) ifs=true
theorem tn(h:aE G N (.comp el p it co) sc (.ListComp e gs scope pos)=true):Ie G N sc el p it co e gs scope:=by refine am (dO (l:=gs) (vB h).2) λj c h=>?_;obtain⟨t,ix,q,k⟩:=j;refine rR c (am (fP h) λps v h=>dQ (vB h) λh o=>dQ (vB h) λh i=>dQ (vB h) λh n=>dQ (vB h) λh Q=>?_);obtain rfl:k=0:=Qd.mp Q;exact⟨_,_,_,_,rfl,v,(vB h).1,(vB h).2,n,i,o⟩
theorem oh{sc:Sc}{env:PySem.Env}{scope:Scope}{ps:List (Str×Nat)}{ρ:Z8}{σ:Hp}{s:Shared}(L:Loc sc env h₀ s.heap σ ρ)(hs:gL sc scope ps=true):
  closureFor scope env=pure (jg env.cells scope.names [])/\scope.kind=.function/\∀x∈scope.names,x.2=.local->scope.names.lookup x.1=some .local:=by
 simp only[gL,QW,Qd,Qc] at hs
 refine dQ (hs) λy z=>dQ (y) λe c=>⟨rV λp v i=>?_,e,λx h r=>?_⟩
 ·have:=(c p v).1.2;rw[i] at this;exact L.has p.1 (Qd.mp (this))
 ·have:=(c x h).1.1.2;rw[r] at this;exact Qd.mp (this:(scope.names.lookup x.1==some NameKind.local)=true)
theorem Ac(R:aU w h₀ σ s)(f:s.heap.get? b=none):h₀.get? b=none:=by
 cases e:h₀.get? b with
 |none=>rfl
 |some o=>have:=R.oldGet _ _ e;replace this:=(f)▸this;exact rR this rfl
theorem mG{h:Heap}{C:Addr}{m:Str->X8}(g:h.Ns C m):∀o,h.get? C=some o->gU o:=λo e=>by refine Kg g λp U f J I _=>?_;replace e:=J▸e;cases e;exact⟨λa items n e=>(by replace e:=I▸e;cases e),λa vs e=>(by replace e:=I▸e;cases e)⟩
theorem qr:gU (listOf items n):=⟨λe=>by simp at e,λe=>by simp at e⟩
theorem FY{el it co:Internal.E}(p:pa)(Yh:Ok prog w h₀ T G N C d el)(Xl:Ok prog w h₀ T G N C d it)(Zh:Ok prog w h₀ T G N C d co):Ok prog w h₀ T G N C d (.comp el p it co):=.simple 15 (λ{sc x env ρ σ s Q A} g L R h q=>by refine vo (bj (vB h).1) λe gs scope pos I=>?_;subst I;refine OT ((tn h).ex) λt ix ifs ps ZC hp h1 h2 hs h5 h6=>rR ZC ?_;refine DP (oh L hs) λf1 f2 f3=>Uq (use:=none) rfl (gY h2) f1 f2 f3 (aQ.go (Xl.ev g L R h1 q) λu s₁ v ia y U r₁ J=>?_);unfold iA at J;refine nR (J) λl hl hz J=>tB (RR:=λacc C=>compPost (model prog w) A bE none (aQ w h₀ σ s Q) acc C) Yh Zh g (L.grow U) y hp hs h5 h6 r₁ hl hz J ?_;intro D Cc s' ma ys items n m a M c R' G' i hD j hn k q';refine⟨m,hn,λh' Y=>?_⟩;refine dQ (eV (n:=s'.toks) R' ⟨k,Ac y M⟩ (mG hn) (h':=h') λb o hb x=>Y.extBut b o hb x) λr z=>?_;have B:=r.adopt (o:=.list ys) i (Ac y a) (Y.extBut D _ c hD) qr rfl ⟨items,n,(Y.extBut D _ c hD),j.mono λø ø x=>x.grow z (λb o e ho=>(mG hn) o (e▸ho):aP s'.heap (λb=>b=Cc))⟩;have GG:=G'.skip z λb e=>e▸M;exact⟨.ref D,_,B,U.trans ⟨GG.keep,λb o e f=>by refine rR (bT (λh=>by replace e:=(h)▸e;replace e:=(a)▸e;cases e)) ?_;exact GG.free b o e f,λb e=>iS (GG.dom b e),GG.os⟩,⟨rfl,by refine rR bO ?_;rfl⟩,q' D i⟩) (λø ø h=>(vB h).1) rfl λø ø=>rfl
theorem CB{el it co:Internal.E}{p:pa}(Yh:Ok prog w h₀ T G N C d el)(Xl:Ok prog w h₀ T G N C d it)(Zh:Ok prog w h₀ T G N C d co){env:PySem.Env}{σ:Hp}{s:Shared}{Q:KS}{A:Around}{x:Str}{i:Nat}{px j pos:Pos}{e:Expr}{gs:List Comprehension}{scope:Scope}(g:Good d A)(L:Loc sc env h₀ s.heap σ ρ)(R:aU w h₀ σ s)(h:aE G N (.comp el p it co) sc (.ListComp e gs scope j)=true)(hx:sc.slots.lookup x=some i)(hk:sc.names.lookup x=some .local)(hl:sg sc x i=true)(OD:swapsWith (.ListComp e gs scope j) (some (.Name x px)) pos.line env=pure true)(q:cP T C (.comp el p it co) ρ σ (Jf (.one i) ρ Q)):
  wpAny (model prog w) A (exec (.Assign [.Name x px] (.ListComp e gs scope j) pos) env) (λf s'=>f=.next/\∃r c,aU w h₀ r s'/\aA (jf env) σ s r s'/\Loc sc env h₀ s'.heap r c/\Q .next c r) bE s:=by
 refine vo ((tn h).ex) λt ix ifs ps VD=>Ji VD λWD hp h1 h2 hs h5 h6=>?_;subst WD
 refine rR (exec_Assign_Name_used _ _ _ _ OD) (PN (Q7 (PN ?_)))
 have Y:=oh L hs;refine PN (Qj (Uq (use:=some (assign (.Name x px) env)) (Q:=λø s'=>∃r c,aU w h₀ r s'/\aA (jf env) σ s r s'/\Loc sc env h₀ s'.heap r c/\Q .next c r) rfl (gY h2) Y.1 Y.2.1 Y.2.2
  (aQ.go (Xl.ev g L R h1 q) λu s₁ v a U Yl r₁ nb=>?_)) (λø s' z=>Qa (Qa ⟨rfl,z⟩)) λø ø x=>x)
 unfold iA at nb
 refine nR nb λl Zl nm tm=>?_;have M:=L.grow Yl
 refine tB (RR:=λacc C=>compPost (model prog w) A bE (some (assign (.Name x px) env)) (λø s'=>∃r c,aU w h₀ r s'/\aA (jf env) σ s r s'/\Loc sc env h₀ s'.heap r c/\Q .next c r) acc C) Yh Zh g M U hp hs h5 h6 r₁ Zl nm tm ?_
 intro D Cc s' r ys items n m YR XD XX R' G' Wm hD Xh hn YD q'
 have oc:aA aS a s₁ (upd r D (.list ys)) s':=⟨G'.keep,λb o e f=>by refine rR (bT (λh=>by replace e:=h▸e;replace e:=YR▸e;cases e)) ?_;exact G'.free b o e f,λb e=>iS (G'.dom b e),G'.os⟩
 have Xm:∀b,jf env b->b≠Cc:=λb hb e=>by refine am (M.at hb) λo ho _=>?_;replace ho:=e▸ho;replace ho:=XD▸ho;cases ho
 refine Tq (ti (M.grow oc) (R'.adopt (o:=.list ys) Wm (Ac U YR) hD qr rfl ⟨items,n,hD,Xh⟩) hx hk hl (v:=.ref D) (⟨rfl,by refine rR bO ?_;rfl⟩) λJ fi Ym ZD=>?_)
 have y:upd r D (.list ys) Cc=none:=(bT (SX XX)).trans YD
 refine Kg (id hn) λoC YX ZX Zm kn Xn=>?_;have Wi:J.heap.get? Cc=some oC:=Ym.keep Cc oC (λe=>Xm _ (.inl rfl) e.symm) Zm y
 have B:J.heap.Ns Cc m:=⟨oC,YX,ZX,Wi,kn,Xn⟩
 refine(aK m B (λh' ql=>?_))
 have Yn:=eV (n:=J.toks) fi ⟨y,Ac U XD⟩ (mG B) (h':=h') λb o hb x=>ql.extBut b o hb x;have I:=Yn.2
 have TE:=ZD.growX I (λb o e ho=>(mG B) o (e▸ho):aP J.heap (λb=>b=Cc)) λb hb e=>Xm b hb e
 have k:aA (jf env) a s₁ (upd r D (.list ys)) J:=oc.transN (Ym.weaken λb ø ø e=>.inl e)
 refine(Et _ _ Yn.1 (Yl.transN ⟨λb o nx e f=>?_,λb o e f=>?_,λb e=>I.dom b (k.dom b e),I.os.trans k.os⟩) TE (q' D Wm))
 ·have hb:b≠Cc:=λh=>by replace e:=h▸e;replace e:=XD▸e;cases e
  exact I.keep b o hb (k.keep b o nx e f) (k.free b o e f)
 ·exact k.free b o e f
theorem aD(X:Ctx w K h₀ T G N)(Y:lW prog w h₀ d C):∀e:Internal.E,Ok prog w h₀ T G N C d e
 |.nil=>JR
 |.cons a r=>EH (aD X Y a) (aD X Y r)
 |.lit v=>HY v
 |.var i=>JA i
 |.glob x v=>Ft X x v
 |.attr a n=>Fw X n (aD X Y a)
 |.item a i=>EP (aD X Y a) (aD X Y i)
 |.slice a lo hi st=>Cn X (aD X Y a) (aD X Y lo) (aD X Y hi) (aD X Y st)
 |.bin op a b=>Ja op (aD X Y a) (aD X Y b)
 |.neg a=>Jg (aD X Y a)
 |.not a=>JF (aD X Y a)
 |.cmp op a b=>JB X op (aD X Y a) (aD X Y b)
 |.cmp2 op k a b c=>Gu X op k (aD X Y a) (aD X Y b) (aD X Y c)
 |.and es=>Ic (aD X Y es)
 |.or es=>MN (aD X Y es)
 |.ite c a b=>IW (aD X Y c) (aD X Y a) (aD X Y b)
 |.tup es=>I8 (aD X Y es)
 |.list es=>EW (aD X Y es)
 |.dict es=>Ff (aD X Y es)
 |.call f x es=>FJ X Y f x (aD X Y es)
 |.meth a n es=>F3 X Y n (aD X Y a) (aD X Y es)
 |.bi b es=>L8 X b (aD X Y es)
 |.comp el p it co=>FY p (aD X Y el) (aD X Y it) (aD X Y co)
 |.dead=>Fd
end
end
mutual
structure Pu where
 tag:Nat
 x:Expr:=.Name default ⟨0,0,0,0⟩
 y:Expr:=.Name default ⟨0,0,0,0⟩
 ts:List Expr:=[]
 ov:Option Expr:=none
 op:Operator:=.Add
 xs:List Stmt:=[]
 ys:List Stmt:=[]
 zs:List Stmt:=[]
noncomputable def fV:Stmt->Pu
 |.Expr x _=>{tag:=1,x:=x}
 |.Assign ts x _=>{tag:=2,ts:=ts,x:=x}
 |.AugAssign x op y _=>{tag:=3,x:=x,op:=op,y:=y}
 |.If x xs ys _=>{tag:=4,x:=x,xs:=xs,ys:=ys}
 |.While x xs ys _=>{tag:=5,x:=x,xs:=xs,ys:=ys}
 |.For x y xs ys _=>{tag:=6,x:=x,y:=y,xs:=xs,ys:=ys}
 |.Return x _=>{tag:=7,ov:=x}
 |.Continue _=>{tag:=8}
 |.Try xs _ ys zs _=>{tag:=9,xs:=xs,ys:=ys,zs:=zs}
 |_=>{tag:=0}
noncomputable def K9(e:Stmt):List Prop:=
 [True,∃x p,e=.Expr x p,∃ts x p,e=.Assign ts x p,∃x op y p,e=.AugAssign x op y p,∃x xs ys p,e=.If x xs ys p,∃x xs ys p,e=.While x xs ys p,∃x y xs ys p,e=.For x y xs ys p,∃x p,e=.Return x p,∃p,e=.Continue p,∃xs hs ys zs p,e=.Try xs hs ys zs p]
theorem J5(e:Stmt):(K9 e).getD (fV e).tag True:=by cases e<;>first|exact⟨_,rfl⟩|exact⟨_,_,rfl⟩|exact⟨_,_,_,rfl⟩|exact⟨_,_,_,_,rfl⟩|exact⟨_,_,_,_,_,rfl⟩|trivial
theorem dG(h:((fV e).tag==k)=true):(K9 e).getD k True:=sB (Qd.mp h) (J5 e)
abbrev lF(k:Nat)(e:Stmt):Bool:=(fV e).tag==k
noncomputable def eU(e:Expr):Bool:= !(bt 15 e||bt 18 e||bt 19 e)
noncomputable def Dx(e:Expr):Bool:= !bt 11 e
noncomputable def qI(op:Operator):Bool:=op==.Add||op==.Sub||op==.BitOr||op==.BitAnd
noncomputable def storeOk(sc:Sc)(p:Str×Nat):Bool:=G4 sc p.1 p.2&&sg sc p.1 p.2
noncomputable def Jk(sc:Sc)(n:Str)(M:Nat)(e:Expr):Bool:=
 eU e||(bt 15 e&&(sc.names.lookup n==some .local&&M==(ao e).p.line&& !((ao e).sc.names.any λ(m,k)=>m==n&&(k==.local||k==.cell))))
def Om(sc:Sc)(i j:Nat)(e w:Expr->Bool)(t x:Expr):Bool:=
 bt 11 t&&(bt 11 x&&(tQ (λp y=>bt 2 p&&(bt 2 y&&(storeOk sc ((ao p).n,i)&&storeOk sc ((ao y).n,j)&&sc.names.lookup (ao p).n==some .local&&sc.names.lookup (ao y).n==some .local&&((ao p).p.line==(ao y).p.line)&& !((ao p).n==(ao y).n)&& !(i==j)))) (ao t).xs&&
  tQ (λv u=>e v&&w u&&c0 v&&c0 u&& !([v,u].all (foldedForSure 8))&& !([v,u].all (constantsAlone 8))) (ao x).xs))
noncomputable def HR(sc:Sc)(p:pa)(t v:Expr):Bool:=p.casesOn (λa=>Jk sc (ao t).n (ao t).p.line v) (λa a=>eU v&&Dx v)
end
section
variable(G:W7)(N:V7)
mutual
noncomputable def dE:S->Sc->Stmt->Bool
 |.expr e,sc,x=>lF 1 x&&(aE G N e sc (fV x).x&&eU (fV x).x)
 |.asg p e,sc,x=>lF 2 x&&mI (λt=>Ey (λps=>ps.all (storeOk sc)) (cA p t)&&aE G N e sc (fV x).x&&HR sc p t (fV x).x) (fV x).ts
 |.asg2 i j a b,sc,x=>lF 2 x&&mI (λt=>Om sc i j (aE G N a sc) (aE G N b sc) t (fV x).x) (fV x).ts
 |.setAttr o n e,sc,x=>lF 2 x&&mI (λt=>bt 3 t&&((ao t).n==n&&aE G N e sc (fV x).x&&aE G N o sc (ao t).x&&eU (fV x).x)) (fV x).ts
 |.setItem o i e,sc,x=>lF 2 x&&mI (λt=>bt 4 t&&(aE G N e sc (fV x).x&&aE G N o sc (ao t).x&&aE G N i sc (ao t).y&&gh (ao t).y&&eU (fV x).x)) (fV x).ts
 |.augVar i op e,sc,x=>lF 3 x&&(bt 2 (fV x).x&&((fV x).op==op&&qI op&&storeOk sc ((ao (fV x).x).n,i)&&aE G N e sc (fV x).y))
 |.augAttr o n op e,sc,x=>lF 3 x&&(bt 3 (fV x).x&&((fV x).op==op&&qI op&&(ao (fV x).x).n==n&&aE G N o sc (ao (fV x).x).x&&aE G N e sc (fV x).y))
 |.augItem o i op e,sc,x=>lF 3 x&&(bt 4 (fV x).x&&((fV x).op==op&&qI op&&aE G N o sc (ao (fV x).x).x&&aE G N i sc (ao (fV x).x).y&&aE G N e sc (fV x).y&&gh (ao (fV x).x).y))
 |.iff c a b,sc,x=>lF 4 x&&(aE G N c sc (fV x).x&&b9 a sc (fV x).xs&&b9 b sc (fV x).ys)
 |.whl c b,sc,x=>lF 5 x&&(aE G N c sc (fV x).x&&b9 b sc (fV x).xs&&(fV x).ys.isEmpty)
 |.loop p it b,sc,x=>lF 6 x&&(Ey (λps=>ps.all (storeOk sc)) (cA p (fV x).x)&&aE G N it sc (fV x).y&&qo (fV x).y&&b9 b sc (fV x).xs&&(fV x).ys.isEmpty)
 |.ret e,sc,x=>lF 7 x&&Ey (aE G N e sc) (fV x).ov
 |.ret0,_,x=>lF 7 x&&(fV x).ov.isNone
 |.cont,_,x=>lF 8 x
 |.tryF b f,sc,x=>lF 9 x&&(b9 b sc (fV x).xs&&b9 f sc (fV x).zs&&(fV x).ys.isEmpty&& !(fV x).zs.isEmpty)
 |.dead,_,_=>true
 |.nil,_,_=>false
 |.seq _ _,_,_=>false
noncomputable def b9:S->Sc->List Stmt->Bool
 |.nil,_,xs=>xs.isEmpty
 |.seq a r,sc,xs=>xs.casesOn false λx xs=>dE a sc x&&b9 r sc xs
 |.dead,_,_=>true
 |_,_,_=>false
end
end
section
variable{G:W7}{N:V7}{sc:Sc}{a b e o i it:Internal.E}{n:Str}{op:Operator}{P:Stmt->Prop}{x:Stmt}{u v:S}{j k:Nat}{pt:pa}
mutual
theorem IQ(K:∀y p,aE G N e sc y=true->eU y=true->P (.Expr y p))(h:dE G N (.expr e) sc x=true):P x:=by have C:=vB h;refine i5 (dG C.1) λy p M=>?_;subst M;exact K y p (vB C.2).1 (vB C.2).2
theorem Mn(K:∀t v p ps,cA pt t=some ps->(∀z∈ps,storeOk sc z=true)->aE G N e sc v=true->HR sc pt t v=true->P (.Assign [t] v p))(h:dE G N (.asg pt e) sc x=true):P x:=by have C:=vB h;refine k6 (dG C.1) λts v p m=>?_;subst m;exact am (dO (l:=ts) C.2) λt c h=>rR c (am (fP (vB (vB h).1).1) λps w y=>K t v p ps w (Qc.mp y) (vB (vB h).1).2 (vB h).2)
theorem I4(K:∀n p m q l tp y z g vp pos,storeOk sc (n,j)=true->storeOk sc (m,k)=true->sc.names.lookup n=some .local->sc.names.lookup m=some .local->p.line=q.line-> ¬n=m-> ¬j=k->aE G N a sc y=true->aE G N b sc z=true->c0 y=true->c0 z=true->
  [y,z].all (foldedForSure 8)=false->[y,z].all (constantsAlone 8)=false->P (.Assign [.Tuple [.Name n p,.Name m q] l tp] (.Tuple [y,z] g vp) pos))(h:dE G N (.asg2 j k a b) sc x=true):P x:=by
 have L:=vB h
 refine k6 (dG L.1) λts v pos J=>?_;subst J
 refine am (dO (l:=ts) L.2) λt s h=>rR s (k6 (bj (vB h).1) λts l tp r=>?_);subst r
 refine k6 (bj (vB (vB h).2).1) λvs g vp w=>?_;subst w
 have h:=vB (vB (vB h).2).2
 refine eA (ik (l:=ts) h.1) λt1 t2 B C=>rR B (eA (ik (l:=vs) h.2) λy z A hb=>rR A ?_)
 clear h
 obtain⟨n,p,rfl⟩:=bj (vB C).1
 refine i5 (bj (vB (vB C).2).1) λm q Y=>?_;subst Y
 exact DA (λI M c Q d T=>DA (λc1 f U c4 c5 c6=>K n p m q l tp y z g vp pos (vB I).1 (vB I).2 (Qd.mp M) (Qd.mp c) (Qd.mp Q) (RB.mp ((QD _).mp d)) (RB.mp ((QD _).mp T)) c1 f U c4
  ((QD _).mp c5) ((QD _).mp c6)) hb) (vB (vB C).2).2
theorem Bl(K:∀y q v p,aE G N e sc v=true->aE G N o sc y=true->eU v=true->P (.Assign [.Attribute y n q] v p))(h:dE G N (.setAttr o n e) sc x=true):P x:=by have C:=vB h;refine k6 (dG C.1) λts v p B=>?_;subst B;refine am (dO (l:=ts) C.2) λt I h=>rR I (k6 (bj (vB h).1) λy m q U=>?_);subst U;exact kg (λm=>P (.Assign [.Attribute y m q] v p)) (vB (vB (vB (vB h).2).1).1).1<|K y q v p (vB (vB (vB (vB h).2).1).1).2 (vB (vB (vB h).2).1).2 (vB (vB h).2).2
theorem A7(K:∀y l q v p,aE G N e sc v=true->aE G N o sc y=true->aE G N i sc l=true->gh l=true->eU v=true->P (.Assign [.Subscript y l q] v p))(h:dE G N (.setItem o i e) sc x=true):P x:=by have C:=vB h;refine k6 (dG C.1) λts v p g=>?_;subst g;refine am (dO (l:=ts) C.2) λt T h=>rR T (k6 (bj (vB h).1) λy l q f=>?_);subst f;exact Fg (K y l q v p) (vB h).2
theorem B2(K:∀n q v p,qI op=true->storeOk sc (n,j)=true->aE G N e sc v=true->P (.AugAssign (.Name n q) op v p))(h:dE G N (.augVar j op e) sc x=true):P x:=by have C:=vB h;refine vo (dG C.1) λt I v p l=>?_;subst l;refine i5 (bj (vB C.2).1) λn q s=>?_;subst s;exact kg (λo=>P (.AugAssign (.Name n q) o v p)) (vB (vB (vB (vB C.2).2).1).1).1<|K n q v p (vB (vB (vB (vB C.2).2).1).1).2 (vB (vB (vB C.2).2).1).2 (vB (vB C.2).2).2
theorem AK(K:∀y q v p,qI op=true->aE G N o sc y=true->aE G N e sc v=true->P (.AugAssign (.Attribute y n q) op v p))(h:dE G N (.augAttr o n op e) sc x=true):P x:=by have C:=vB h;refine vo (dG C.1) λt J v p z=>?_;subst z;refine k6 (bj (vB C.2).1) λy m q r=>?_;subst r;exact Fg (λI d Q s l=>kg (λo=>P (.AugAssign (.Attribute y m q) o v p)) I<|kg (λm=>P (.AugAssign (.Attribute y m q) op v p)) Q<|K y q v p d s l) (vB C.2).2
theorem AV(K:∀y l q v p,qI op=true->aE G N o sc y=true->aE G N i sc l=true->aE G N e sc v=true->gh l=true->P (.AugAssign (.Subscript y l q) op v p))(h:dE G N (.augItem o i op e) sc x=true):P x:=by have C:=vB h;refine vo (dG C.1) λt J v p z=>?_;subst z;refine k6 (bj (vB C.2).1) λy l q L=>?_;subst L;exact DA (λI d Q r m s=>kg (λo=>P (.AugAssign (.Subscript y l q) o v p)) I<|K y l q v p d Q r m s) (vB C.2).2
theorem MR(K:∀t xs ys p,aE G N e sc t=true->b9 G N u sc xs=true->b9 G N v sc ys=true->P (.If t xs ys p))(h:dE G N (.iff e u v) sc x=true):P x:=by have C:=vB h;refine vo (dG C.1) λt xs ys p c=>?_;subst c;exact K t xs ys p (vB (vB C.2).1).1 (vB (vB C.2).1).2 (vB C.2).2
theorem LH(K:∀t xs p,aE G N e sc t=true->b9 G N u sc xs=true->P (.While t xs [] p))(h:dE G N (.whl e u) sc x=true):P x:=by have C:=vB h;refine vo (dG C.1) λt xs ys p l=>?_;subst l;exact nq (λys=>P (.While t xs ys p)) (vB C.2).2<|K t xs p (vB (vB C.2).1).1 (vB (vB C.2).1).2
theorem Kk(K:∀t y xs p ps,cA pt t=some ps->(∀z∈ps,storeOk sc z=true)->aE G N it sc y=true->qo y=true->b9 G N u sc xs=true->P (.For t y xs [] p))(h:dE G N (.loop pt it u) sc x=true):P x:=by have I:=vB h;refine OI (dG I.1) λt y xs ys p m=>?_;subst m;refine Fg (λC d Q q l=>?_) I.2;exact am (fP C) λps w C=>nq (λys=>P (.For t y xs ys p)) l<|K t y xs p ps w (Qc.mp C) d Q q
theorem Iv(K:∀xs hs y ys p,b9 G N u sc xs=true->b9 G N v sc (y::ys)=true->P (.Try xs hs [] (y::ys) p))(h:dE G N (.tryF u v) sc x=true):P x:=by
 have C:=vB h;refine OI (dG C.1) λxs hs q zs p w=>?_;subst w;induction zs with
 |nil=>exact VC (vB C.2).2 PC
 |cons y ys=>exact nq (λq=>P (.Try xs hs q (y::ys) p)) (vB (vB C.2).1).2<|K xs hs y ys p (vB (vB (vB C.2).1).1).1 (vB (vB (vB C.2).1).1).2
end
end
def I2(σ:Hp)(h:Heap)(c:Gh)(f:Flow):Prop:=c.casesOn (f=.next) (f=.cont) λv=>∃u,f=.ret u/\aG σ h v u
def fR(w:World)(h₀:Heap)(sc:Sc)(env:PySem.Env)(σ:Hp)(s:Shared)(Q:KS)(f:Flow)(s':Shared):Prop:=
 ∃c o d,aU w h₀ o s'/\aA (jf env) σ s o s'/\Loc sc env h₀ s'.heap o d/\I2 o s'.heap c f/\Q c d o
theorem RetU.go{w h₀ σ s M A E}{Q:Hp->Prop}{P:W8}(h:wpAny M A x (λa s'=>∃o,aU w h₀ o s'/\aA aS σ s o s'/\Q o) bE s)(k:∀v s₁ Y,aU w h₀ Y s₁->aA aS σ s Y s₁->Q Y->P v s₁):wpAny M A x P E s:=
 Qj h (λa a z=>z.elim λo z=>k _ _ o z.1 z.2.1 z.2.2) λa a x=>x.elim
theorem fR.go{w h₀ sc env σ s Q M A E}{P:Flow->Shared->Prop}(h:wpAny M A x (fR w h₀ sc env σ s Q) bE s)(k:∀f s₁ c Y y,aU w h₀ Y s₁->aA (jf env) σ s Y s₁->Loc sc env h₀ s₁.heap Y y->I2 Y s₁.heap c f->Q c y Y->P f s₁):wpAny M A x P E s:=
 Qj h (λa a z=>z.elim λc z=>z.elim λo z=>z.elim λd z=>k _ _ c o d z.1 z.2.1 z.2.2.1 z.2.2.2.1 z.2.2.2.2) λa a x=>x.elim
theorem fR.back{w h₀ sc env σ s ma s' Yb Q f s''}(L:Loc sc env h₀ s'.heap ma Yb)(G:aA (jf env) σ s ma s')(z:fR w h₀ sc env ma s' Q f s''):fR w h₀ sc env σ s Q f s'':=
 Ov z λc I C R g L' r q=>Pr c I C R (G.transX g λa x=>(L.at x).elim λo h=>⟨o,h.1⟩) L' r q
theorem fR.backs{w h₀ sc env σ s ma s' Yb Q M A}(L:Loc sc env h₀ s'.heap ma Yb)(G:aA (jf env) σ s ma s')(h:wpAny M A x (fR w h₀ sc env ma s' Q) bE s'):wpAny M A x (fR w h₀ sc env σ s Q) bE s':=
 Qj h (λa a z=>z.back L G) λa a x=>x
section
variable(prog:Program)(w:World)(h₀:Heap)(T:nc)(G:W7)(N:V7)(C:cj)(d:Nat)
structure nh(st:S):Prop where
 one:∀{sc:Sc}{x:Stmt}{env:PySem.Env}{ρ:Z8}{σ:Hp}{s:Shared}{Q:KS}{A:Around},Good d A->Loc sc env h₀ s.heap σ ρ->aU w h₀ σ s->dE G N st sc x=true->fS T C st ρ σ Q->
  wpAny (model prog w) A (exec x env) (fR w h₀ sc env σ s Q) bE s
 many:∀{sc:Sc}{xs:List Stmt}{env:PySem.Env}{ρ:Z8}{σ:Hp}{s:Shared}{Q:KS}{A:Around},Good d A->Loc sc env h₀ s.heap σ ρ->aU w h₀ σ s->b9 G N st sc xs=true->fS T C st ρ σ Q->
  wpAny (model prog w) A (execs xs env) (fR w h₀ sc env σ s Q) bE s
end
section
variable{prog:Program}{w:World}{h₀:Heap}{T:nc}{G:W7}{N:V7}{C:cj}{d:Nat}{K:Frag}
mutual
theorem lz(h:eU v=true):swapsWith v t n env=pure false:=by cases v<;>first|rfl|(exact VC h PC)
theorem j7(h:eU v=true):swapsWithSole [t] v n env=pure false:=lz (t:=some t) h
theorem uW(h:Dx v=true)(ht:bt 11 t=true):swappedStores [t] v env=pure none:=by refine k6 (bj ht) λts k p a=>rR a ?_;cases v<;>first|rfl|exact VC h PC
theorem tY:swappedStores [.Attribute x n p] v env=pure none:=by cases v<;>rfl
theorem wu:swappedStores [.Subscript x y p] v env=pure none:=by cases v<;>rfl
theorem Loc.block(L:Loc sc env h₀ h σ ρ):env.blockKind=.function/\interactive env=false:=by delta PySem.Env.blockKind interactive;exact rR L.kind ⟨rfl,rfl⟩
theorem dC(h:storeOk sc p=true):sc.slots.lookup p.1=some p.2/\(sc.names.lookup p.1=some .local\/sc.names.lookup p.1=some .cell)/\sg sc p.1 p.2=true:=dQ (vB h) λh Q=>dQ (vB h) λh _=>dQ (vB h) λI e=>⟨Qd.mp I,(Qw.mp e).imp Qd.mp Qd.mp,Q⟩
theorem wW(h:JH sc env ps b):jf env b:=let ⟨_,_,h⟩:=h;h.own
theorem fR.next(R:aU w h₀ ma s')(G:aA (jf env) σ s ma s')(L:Loc sc env h₀ s'.heap ma Yb)(q:Q .next Yb ma):fR w h₀ sc env σ s Q .next s':=
 ⟨.next,ma,Yb,R,G,L,rfl,q⟩
theorem aA.own(L:Loc sc env h₀ s'.heap ma Yb)(a:aA (jf env) σ s ma s')(b:aA (jf env) ma s' σ'' s''):aA (jf env) σ s σ'' s'':=
 a.transX b λc x=>am (L.at x) λo g c=>⟨o,g⟩
abbrev MM(prog:Program)(w:World)(h₀:Heap)(T:nc)(G:W7)(N:V7)(C:cj)(d:Nat)(st:S):Prop:=∀{sc:Sc}{x:Stmt}{env:PySem.Env}{ρ:Z8}{σ:Hp}{s:Shared}{Q:KS}{A:Around},Good d A->Loc sc env h₀ s.heap σ ρ->aU w h₀ σ s->dE G N st sc x=true->fS T C st ρ σ Q->
  wpAny (model prog w) A (exec x env) (fR w h₀ sc env σ s Q) bE s
theorem dH{st:S}(h:MM prog w h₀ T G N C d st)(M:∀sc xs,b9 G N st sc xs=false):nh prog w h₀ T G N C d st where
 one:=h
 many:=λa a a c=>VC ((M _ _).symm.trans c) PC
theorem Gv:nh prog w h₀ T G N C d .nil where
 one:=λa a a h=>VC h PC
 many:=λ{sc xs env ρ σ s Q A} g L R h q=>by exact rR (Q4.mp h) (Tb (.next R aA.refl L q))
theorem ER(B:nh prog w h₀ T G N C d a)(i:nh prog w h₀ T G N C d r):nh prog w h₀ T G N C d (.seq a r) where
 one:=λb b b h=>VC h PC
 many:=λ{sc xs env ρ σ s Q A} g L R h q=>by
  induction xs with
  |nil=>exact VC h PC
  |cons x xs=>
   refine wpAny_execs_cons (fR.go (B.one g L R (vB h).1 q) λf s₁ c Y z y U m rf J=>?_);induction c with
   |next=>exact rR rf (fR.backs m U (i.many g m y (vB h).2 J))
   |cont=>exact(Qe (rf))▸⟨.cont,Y,z,y,U,m,rfl,J⟩
   |ret v=>obtain⟨u,rfl,rf⟩:=rf;exact⟨.ret v,Y,z,y,U,m,⟨u,rfl,rf⟩,J⟩
theorem BR:nh prog w h₀ T G N C d .dead where
 one:=λa a a a q=>False.elim q
 many:=λa a a a q=>False.elim q
theorem I1(r:aG σ h u v)(q:D9 u=false):∀a,v≠.ref a:=λa e=>by subst e;cases u<;>first|(cases r;done)|(obtain⟨_,r⟩:=r;cases r;done)|cases q
end
variable(X:Ctx w K h₀ T G N)(Y:lW prog w h₀ d C)
mutual
include X Y
theorem CJ(e:Internal.E):nh prog w h₀ T G N C d (.expr e):=dH (λ{sc x env ρ σ s Q A} g L R h q=>by apply IQ _ h;intro x p h f;refine wpAny_Expr (aQ.go ((aD X Y e).ev g L R h q) λv s₁ u a y U r₁ J=>?_) L.block.2 (lz (v:=x) f);unfold wV at J;have:=I1 r₁ J.1;induction v<;>first|exact .next y U.up (L.grow U) J.2|exact VC rfl (this _)) λb b=>rfl
def ND(e:Internal.E):Prop:=(∃a p it cs,e=.comp a p it cs)\/e=.dead
omit X Y in
theorem F9{e:Internal.E}{sc:Sc}{el:Expr}{gs:List Comprehension}{scope:Scope}{vp:Pos}(h:aE G N e sc (.ListComp el gs scope vp)=true):ND e:=by induction e<;>first|exact VC h PC|exact .inl (OB _ _ _ _ rfl)|exact .inr rfl
theorem E8(p:pa)(e:Internal.E):nh prog w h₀ T G N C d (.asg p e):=dH (λ{sc x env ρ σ s Q A} g L R h q=>by
 apply Mn _ h;intro t v pos ps hp o hv c;have Za:∀{v':Value}{s₁:Shared},aQ w h₀ σ s (Jf p ρ Q) v' s₁->wpAny (model prog w) A (assign t env v') (λa=>fR w h₀ sc env σ s Q .next) bE s₁:=by rintro v' s₁ ⟨u,b,y,U,r₁,J⟩;exact nP hp (λz hz=>dC (o z hz)) g.1 (L.grow U) y r₁ J λoa Zn I B l fb=>.next I (U.transN (B.weaken λa a a x=>wW x)) l fb
 induction p with
 |one i=>
  refine eA (uM hp) λn px VE WE=>?_;subst VE;subst WE;refine DP (dC (o _ (.head _))) λhx _ hl=>?_;rcases Qw.mp c with M|M
  ·exact wpAny_Assign_Name (aQ.go ((aD X Y e).ev g L R hv q) λv' s₁ u b y U r₁ J=>gm (L.grow U) y hx (dC (o _ (.head _))).2.1 hl r₁ λoa I B l=>
    .next I (U.transN (B.weaken λa a a x=>x.own)) l J) (lz (v:=v) M)
  refine dQ (vB M) λht M=>vo (bj ht) λel gs scope vp XE=>?_;subst XE;obtain⟨M,c⟩:=vB M;refine dQ (vB M) λh1 h2=>?_;have h1:sc.names.lookup n=some .local:=Qd.mp h1;have h2:(px.line==vp.line)=true:=h2;have c:(!(scope.names.any λ(m,k)=>m==n&&(k==.local||k==.cell)))=true:=c;have OD:swapsWith (.ListComp el gs scope vp) (some (.Name n px)) pos.line env=pure true:=by show(pure (env.blockKind==.function&&env.kindOf n==some .local&&px.line==vp.line&& !(scope.names.any λ(m,k)=>m==n&&(k==.local||k==.cell))):Sem Bool)=pure true;simp only[L.block.1,L.kindOf,h1,h2,c];rfl
  rcases F9 hv with ⟨_,_,_,_,rfl⟩|rfl
  rotate_left;exact False.elim q;exact Qj (CB (aD X Y _) (aD X Y _) (aD X Y _) g L R hv hx h1 hl OD q) (λf s₁ z1=>by obtain⟨hf,b,Wg,y,U,YE,J⟩:=z1;subst hf;exact .next y U YE J) λa a x=>x
 |two i j=>refine PA (pg hp) λn m pn pm k r ZE _=>?_;subst ZE;exact Assign_Tuple (Qj ((aD X Y e).ev g L R hv q) (λv' s₁ z=>Za z) λa a x=>x) (j7 (v:=v) (vB c).1) (uW (v:=v) (vB c).2 rfl)) λa a=>rfl
omit X Y in
theorem N0{F:Expr->Bool}{v u:Expr}(a:F v=false)(b:F u=false): ¬[v,u].any F=true:=by refine rR R6 (rR R6 (rR a (rR b ?_)));exact PC
omit X Y in
theorem vC{n m:Str}{p q:Pos}{k k':Nat}{tp vp:Pos}{v u:Expr}{env:PySem.Env}(j:env.blockKind=.function)(I:env.kindOf n=some .local)(g:env.kindOf m=some .local)(r:p.line=q.line)(o: ¬n=m)(s:c0 v=true)(B:c0 u=true)(i:[v,u].all (foldedForSure 8)=false)(z:[v,u].all (constantsAlone 8)=false):
  swappedStores [.Tuple [.Name n p,.Name m q] k tp] (.Tuple [v,u] k' vp) env=pure (some [n,m]):=by
 have h:∀{F:Expr->Option Str},F (.Name n p)=some n->F (.Name m q)=some m->List.filterMap F [.Name n p,.Name m q]=[n,m]:=λ{F} a b=>by refine rR Rt (rR a (rR Rt (rR b ?_)));rfl
 have x:(env.kindOf n==some .local&&p.line==p.line)=true:=by exact rR I (SB _)
 have f:(env.kindOf m==some .local&&q.line==p.line)=true:=by refine rR g (rR r ?_);exact SB _
 refine(PV ?_).trans ((PV (N0 ?_ ?_)).trans ((PV ?_).trans ((PV ?_).trans ((PV ?_).trans (PR (λl=>pure (some l)) (h (PW x) (PW f)))))))
 ·exact rR j PC
 ·clear i z;cases v<;>first|rfl|exact VC s PC
 ·clear i z;cases u<;>first|rfl|exact VC B PC
 ·refine rR (h (PW x) (PW f)) ?_;simp [List.eraseDups_cons,(by simpa using λe=>o e.symm:(m==n)=false)]
 ·exact rR i PC
 ·exact rR z PC
omit X Y in
theorem FQ{A:Around}{s:Shared}{D:Addr}{z M:Value}{Q:X9->Shared->Prop}(t:A.handled=none)(ht:s.heap.IsTuple D #[z,M])(q:∀h',Heap.ExtBut s.heap.objs.size s.heap h'->Q [z,M] {s with heap:=h'}):
  wpAny (model prog w) A (unpackItems (.ref D) 2 none) Q bE s:=wpAny_unpackItems_tuple (items:=#[z,M]) t ht q
theorem Dr(i j:Nat)(a b:Internal.E):nh prog w h₀ T G N C d (.asg2 i j a b):=dH (λ{sc x env ρ σ s Q A} g L R h q=>by
 apply I4 _ h;intro n p m pq k tp v u k' vp pos h1 h2 h3 h4 h5 h6 h7 h8 h9 Wt Yt VF XF;refine Assign_Tuple_swapped ?_ (j7 rfl) (vC (k:=k) (k':=k') (tp:=tp) (vp:=vp) (p:=p) (q:=pq) L.block.1 ((L.kindOf n).trans h3) ((L.kindOf m).trans h4) h5 h6 Wt Yt VF XF);simp only[arm_eval_Tuple];refine rR (fe (by simp [Wt,Yt]:[v,u].all c0=true)) (PN (Q7 (PN (mN ?_))));refine aQ.go ((aD X Y a).ev g L R h8 q) λva s₁ x ia Xi U r₁ nb=>aQ.go ((aD X Y b).ev g (L.grow U) Xi h9 nb) λvb r y l Xb B r₂ fb=>UX ?_ (gf (n:=2) dD);have Wo:=Xb.more (s':={r with heap:=r.heap.push {cls:=.type "tuple",data:=.seq [va,vb].toArray}}) (λb o e=>Ql _ e) rfl rfl;have t:=Wo.2;have ht:(r.heap.push {cls:=.type "tuple",data:=.seq [va,vb].toArray}).IsTuple r.heap.objs.size #[va,vb]:=⟨_,QV _ rfl,rfl,_,rfl⟩;refine FQ (s:={r with heap:=r.heap.push {cls:=.type "tuple",data:=.seq [va,vb].toArray}}) g.1 ht λh' hx=>?_;have up:∀b o,(r.heap.push {cls:=.type "tuple",data:=.seq [va,vb].toArray}).get? b=some o->h'.get? b=some o:=λb o e=>hx b o (Q9 (RM e)) e;have Xo:=Wo.1.more (s':={r with heap:=h'}) up rfl rfl;have z:=Xo.2;have M:Loc sc env h₀ h' l ρ:=(((L.grow U).grow B).grow t).grow z;have I:=dC h1;have J:=dC h2;have rv:aG l h' y vb:=(r₂.grow t aP.none).grow z aP.none;show wpAny (model prog w) A (holding [va] (bindName env m vb)>>=_) _ bE {r with heap:=h'};refine PN (Qr (wpAny_bindName (gm (s:={r with heap:=h'}) M Xo.1 J.1 J.2.1 J.2.2 rv λYo Yi f Zo=>?_)));refine PN (Qr (wpAny_bindName (gm Zo Yi I.1 I.2.1 I.2.2 ((((r₁.grow B aP.none).grow t aP.none).grow z aP.none:aG l h' x va).grow f λc o x=>M.fram c o x.own) λZf Zb Zd bc=>Qa ?_)));have bp:aA (jf env) σ s l Zf:=((((U.trans B).trans t).trans z).transN (f.weaken λø ø ø x=>x.own):aA (jf env) σ s l Yo).transX (Zd.weaken λø ø ø x=>x.own) λc hc=>am (Zo.at hc) λo ho ø=>⟨o,ho⟩;refine .next Zb bp bc (?_:Q .next (set (set ρ j y) i x) l)
 rw[cz,cz,ir _ _ _ _ _ (SX h7),<-cz,<-cz];exact fb) λø ø=>rfl
theorem wc(o:Internal.E)(n:Str)(e:Internal.E):nh prog w h₀ T G N C d (.setAttr o n e):=dH (λ{sc x env ρ σ s Q A} g L R h q=>by apply Bl _ h;intro y ap v pos k l m;refine Ve (aQ.go ((aD X Y e).ev g L R k q) λvv s₁ x b B U r₁ J=>?_) (j7 (v:=v) m) tY;show wpAny _ A (holding [vv] (eval y env)>>=_) _ _ s₁;refine PN (Qr (aQ.go ((aD X Y o).ev g (L.grow U) B l J) λov p z j r u r₂ M=>?_));refine PN (Q7 (PN (Qr (RetU.go (qq X.tab (X.inn.keeps r.oldGet) r r₂ (r₁.grow u aP.none) M) λi f c I t a=>wpAny_release' ?_))));exact .next I (U.trans (u.trans t)).up ((L.grow U).grow (u.trans t)) a) λi i=>rfl
theorem xi(o i e:Internal.E):nh prog w h₀ T G N C d (.setItem o i e):=dH (λ{sc x env ρ σ s Q A} g L R h q=>by apply A7 _ h;intro y k sp v pos h1 h2 h3 h4 h5;refine Ve (aQ.go ((aD X Y e).ev g L R h1 q) λvv s₁ x j I U r₁ M=>?_) (j7 (v:=v) h5) wu;show wpAny _ A (holding [vv] (eval y env)>>=_) _ _ s₁;refine PN (Qr (aQ.go ((aD X Y o).ev g (L.grow U) I h2 M) λov oa z n r u r₂ a=>?_));have f:=(L.grow U).grow u;refine PN (Qr (aQ.go ((aD X Y i).ev g f r h3 a) λiv sa z' p J t m b=>?_));refine PN (Q7 (PN (Qr (RetU.go (qM (d9 g dD) J (r₂.grow t aP.none) m (r₁.grow (u.trans t) aP.none) b) λø md Zc l B c=>wpAny_release' ?_))));exact .next l (U.trans (u.trans (t.trans B))).up (f.grow (t.trans B)) c) λø ø=>rfl
omit X Y in
theorem p7{op:Operator}(h:qI op=true):op=.Add\/op=.Sub\/op=.BitOr\/op=.BitAnd:=by
 refine RD (Qw.mp h) (λh=>?_) λh=>?_
 ·refine RD (Qw.mp h) (λh=>?_) λh=>?_
  ·exact(Qw.mp h).imp Qd.mp λh=>.inl (Qd.mp h)
  exact .inr (.inr (.inl (Qd.mp h)))
 exact .inr (.inr (.inr (Qd.mp h)))
theorem yr(i:Nat)(op:Operator)(e:Internal.E):nh prog w h₀ T G N C d (.augVar i op e):=dH (λ{sc x env ρ σ s Q A} g L R h q=>by apply B2 _ h;intro n p v pos h1 h2 h3;have j:=dC h2;refine am (zy q) λx B I=>wpAny_AugAssign_Name (Aj L j.1 j.2.1 B λu r=>?_);refine aQ.go ((aD X Y e).ev g L R h3 I) λv s₁ y o c U r₁ J=>?_;unfold zh at J;refine aQ.go (xI c (r.grow U aP.none) r₁ J (p7 h1)) λz oa t Xd f M r₂ l=>?_;have GG:=U.trans M;exact gm (L.grow GG) f j.1 j.2.1 j.2.2 r₂ λsa k a b=>.next k (GG.transN (a.weaken λm m m x=>x.own)) b l) λm m=>rfl
theorem xo(o:Internal.E)(n:Str)(op:Operator)(e:Internal.E):nh prog w h₀ T G N C d (.augAttr o n op e):=dH (λ{sc x env ρ σ s Q A} g L R h q=>by apply AK _ h;intro y p v pos h1 h2 h3;refine wpAny_AugAssign_AttributeAny (aQ.go ((aD X Y o).ev g L R h2 q) λov s₁ x l M U r₁ J=>?_);have m:=L.grow U;unfold Av at J;refine O2 (J) λb c dx fs u YF ec Yx eu J=>?_;subst YF;cases r₁.ref_inv;refine pX X.tab (X.inn.keeps M.oldGet) M ec Yx eu λuv ru k=>?_;have j:aA aS σ s l {s₁ with toks:=k}:=U.toks;refine aQ.go ((aD X Y e).ev (s:={s₁ with toks:=k}) g m M.toks h3 J) λv oa y r Xb B r₂ i=>?_;unfold pE at i;exact aQ.go (xI Xb (aG.grow (s:={s₁ with toks:=k}) B aP.none ru) r₂ i (p7 h1)) λz sa t Yc f I Yd Wh=>RetU.go (qq X.tab (X.inn.keeps f.oldGet) f (aG.grow (s:={s₁ with toks:=k}) (B.trans I) aP.none r₁) Yd Wh) λø md Zc Wb a Wd=>.next Wb (j.trans (B.trans (I.trans a))).up ((Loc.grow (s:={s₁ with toks:=k}) m B:Loc sc env h₀ oa.heap r ρ).grow (I.trans a)) Wd) λø ø=>rfl
theorem wC(o i:Internal.E)(op:Operator)(e:Internal.E):nh prog w h₀ T G N C d (.augItem o i op e):=dH (λ{sc x env ρ σ s Q A} g L R h q=>by apply AV _ h;intro y k p v pos h1 h2 h3 h4 h5;refine wpAny_AugAssign_SubscriptAny (aQ.go ((aD X Y o).ev g L R h2 q) λov s₁ x ia Xi U r₁ nb=>?_) (λov iv new=>by cases k<;>first|rfl|(exact VC h5 PC));refine aQ.go ((aD X Y i).ev g (L.grow U) Xi h3 nb) λiv n ki l r I r₂ M=>?_;unfold tX at M;refine am (M) λu j c=>?_;have f:=(L.grow U).grow I;refine(qd (d9 g dD) r (r₁.grow I aP.none) r₂ j λuv ru k'=>?_).2;have GG:aA aS σ s l {n with toks:=k'}:=(U.trans I).toks;refine aQ.go ((aD X Y e).ev (s:={n with toks:=k'}) g f r.toks h4 c) λvv sa t m fi B Yd a=>?_;unfold y9 at a;exact aQ.go (xI fi (aG.grow (s:={n with toks:=k'}) B aP.none ru) Yd a (p7 h1)) λz md t Zc Wb J od Wd=>RetU.go (qM (d9 g dD) Wb (aG.grow (s:={n with toks:=k'}) (B.trans J) aP.none (r₁.grow I aP.none)) (aG.grow (s:={n with toks:=k'}) (B.trans J) aP.none r₂) od Wd) λø Yo ZR Yi b ZF=>.next Yi (GG.trans (B.trans (J.trans b))).up ((Loc.grow (s:={n with toks:=k'}) f B:Loc sc env h₀ sa.heap m ρ).grow (J.trans b)) ZF) λø ø=>rfl
theorem GA(e:Internal.E):nh prog w h₀ T G N C d (.ret e):=dH (λ{sc x env ρ σ s Q A} g L R h q=>by refine dQ (vB h) λht h=>i5 (dG ht) λov p b=>?_;subst b;exact am (fP (x:=ov) h) λv i h=>rR i (wpAny_Return_some (aQ.go ((aD X Y e).ev g L R h q) λv s₁ u a y U r₁ J=>⟨.ret u,a,ρ,y,U.up,L.grow U,⟨v,rfl,r₁⟩,J⟩))) λc c=>rfl
omit X Y in
theorem Ce:nh prog w h₀ T G N C d .ret0:=dH (λ{sc x env ρ σ s Q A} g L R h q=>by
 refine dQ (vB h) λht h=>i5 (dG ht) λov p t=>?_;subst t;induction ov with
 |some _=>exact VC h PC
 |none=>exact wpAny_Return_none ⟨.ret .none,σ,ρ,R,aA.refl,L,⟨.none,rfl,fg⟩,q⟩) λa a=>rfl
omit X Y in
theorem Dj:nh prog w h₀ T G N C d .cont:=dH (λ{sc x env ρ σ s Q A} g L R h q=>by exact PO (dG h) λp n=>rR n (wpAny_Continue ⟨.cont,σ,ρ,R,aA.refl,L,rfl,q⟩)) λa a=>rfl
theorem F5(c:Internal.E){a b:S}(B:nh prog w h₀ T G N C d a)(k:nh prog w h₀ T G N C d b):nh prog w h₀ T G N C d (.iff c a b):=dH (λ{sc x env ρ σ s Q A} g L R h q=>by
 apply MR _ h;intro t xs ys p I i j;refine wpAny_If (fj.go ((aD X Y c).tr (Q:=λt σ=>(t=true->fS T C a ρ σ Q)/\(t=false->fS T C b ρ σ Q)) g L R I q λv σ q=>iK q) λt s₁ f y U J=>?_);induction t with
 |true=>exact Qj (B.many g (L.grow U) y i (J.1 rfl)) (λe e z=>z.back (L.grow U) U.up) λe e x=>x
 |false=>exact Qj (k.many g (L.grow U) y j (J.2 rfl)) (λe e z=>z.back (L.grow U) U.up) λe e x=>x) λe e=>rfl
omit X Y in
theorem Ci{b f:S}(hb:nh prog w h₀ T G N C d b)(hf:nh prog w h₀ T G N C d f):nh prog w h₀ T G N C d (.tryF b f):=dH (λ{sc x env ρ σ s Q A} g L R h q=>by
 apply Iv _ h;intro xs hs y ys p h1 h2;have e:∀{c:Gh}{fl:Flow}{a:Hp}{B:Z8}{s₁:Shared}{E':V8},aU w h₀ a s₁->aA (jf env) σ s a s₁->Loc sc env h₀ s₁.heap a B->I2 a s₁.heap c fl->LL (fS T C f) Q c B a->
   wpAny (model prog w) A (execs (y::ys) env) (λgfl s'=>match gfl with|.next=>fR w h₀ sc env σ s Q fl s'|gfl=>fR w h₀ sc env σ s Q gfl s') E' s₁:=by
  intro c fl a B s₁ E' z U m rf J
  refine fR.go (hf.many g m z h2 J) λgfl oa c' k j t M l i I=>?_
  induction c' with
  |cont=>exact False.elim I
  |ret v=>exact False.elim I
  |next=>
   refine rR i ⟨c,k,j,t,U.own m M,l,?_,I⟩;induction c with
   |next=>exact rf
   |cont=>exact rf
   |ret v=>exact am (rf) λu r rf=>⟨u,r,rf.grow M m.fram⟩
 cases hs with
 |nil=>
  refine wpAny_Try_finally (fR.go (hb.many g L R h1 q) λfl s₁ c a B z U m rf J=>?_);cases fl with
  |next=>exact Tb (e z U m rf J)
  |brk=>cases c<;>first|(cases rf;done)|(refine PO (rf) λu n=>?_;have rf:=n.1;cases rf)
  |cont=>exact e z U m rf J
  |ret v=>exact e z U m rf J
 |cons hh hs=>
  refine wpAny_Try_except_finally (fR.go (hb.many g L R h1 q) λfl s₁ c a B z U m rf J=>?_);cases fl with
  |next=>exact Tb (e z U m rf J)
  |brk=>cases c<;>first|(cases rf;done)|(refine PO (rf) λu o=>?_;have rf:=o.1;cases rf)
  |cont=>exact e z U m rf J
  |ret v=>exact e z U m rf J) λø ø=>rfl
theorem ES(c:Internal.E){b:S}(hb:nh prog w h₀ T G N C d b):nh prog w h₀ T G N C d (.whl c b):=dH (λ{sc x env ρ σ s Q A} g L R h q=>by
 apply LH _ h;intro t xs p h1 h2;refine jn (q) λn q=>wpAny_While (codeAny_whileLoop (λk s'=>∃o j,aU w h₀ o s'/\aA (jf env) σ s o s'/\Loc sc env h₀ s'.heap o j/\jV (cP T C c) (fS T C b) Q k j o) ?_ n (Et σ ρ R aA.refl L q));rintro k s' ⟨o,j,R',G',L',q'⟩;induction k with
 |zero=>exact False.elim q'
 |succ k=>
  refine fj.go ((aD X Y c).tr (Q:=λt σ=>HS (fS T C b) (jV (cP T C c) (fS T C b) Q k) Q j t σ) g L' R' h1 q' λv σ q=>?_) λt m l J I a=>?_
  ·refine nR (iK q) λt e q3 q4=>?_;induction t with
   |true=>exact⟨_,e,q3 rfl⟩
   |false=>exact⟨_,e,q4 rfl⟩
  have i:=L'.grow I;have GG:aA (jf env) σ s l m:=G'.own L' I.up;induction t with
  |false=>exact Tb (.next J GG i a)
  |true=>
   refine fR.go (hb.many g i J h2 a) λf sa c' r M B y z rf U=>?_;cases c' with
   |next=>cases rf;exact⟨k,QF _,r,M,B,(GG.own i y),z,U⟩
   |cont=>cases rf;exact⟨k,QF _,r,M,B,(GG.own i y),z,U⟩
   |ret v=>obtain⟨u,rfl,rf⟩:=rf;exact⟨.ret v,r,M,B,(GG.own i y),z,⟨u,rfl,rf⟩,U⟩) λø ø=>rfl
omit X Y in
theorem aA.skipO{sc:Sc}{e:PySem.Env}{ρ:Z8}{c σ p:Hp}{s₁ s s':Shared}{I:Addr}(L:Loc sc e h₀ s.heap σ ρ)(a:aA (jf e) c s₁ σ s)(b:aA (λb=>b=I) σ s p s')(f:s₁.heap.get? I=none):aA (jf e) c s₁ p s':=
 ⟨λx o u z y=>b.keep x o (λh=>by rw[h,f] at z;cases z) (a.keep x o u z y) (a.free x o z y),
  λx o z y=>(RA (jf e x)).elim (λu=>(L.at u).elim λo' w=>b.free x o' w.1 (a.free x o z y)) λu=>b.free x o (a.keep x o u z y) (a.free x o z y),λx z=>b.dom x (a.dom x z),b.os.trans a.os⟩
structure Ln(w:World)(h₀:Heap)(ia:Hp)(s₁:Shared)(sc:Sc)(e:PySem.Env)(I:Addr)(u:Value)(v:V)(i:Nat)(σ:Hp)(s:Shared)(ρ:Z8):Prop where
 R:aU w h₀ σ s
 G:aA (jf e) ia s₁ σ s
 L:Loc sc e h₀ s.heap σ ρ
 it:cy s.heap I u v i
 fI:σ I=none
 r:aG σ s.heap v u
end
section
omit X Y
variable{U σ T:Hp}{s₁ s s':Shared}{sc:Sc}{e:PySem.Env}{I:Addr}{u:Value}{v:V}{i j:Nat}{ρ Q:Z8}
theorem Ln.own(t:Ln w h₀ U s₁ sc e I u v i σ s ρ)(o: ¬jf e I)(R:aU w h₀ T s')(G:aA (jf e) σ s T s')(L:Loc sc e h₀ s'.heap T Q):Ln w h₀ U s₁ sc e I u v i T s' Q:=
 ⟨R,aA.own t.L t.G G,L,t.it.keep λa g=>G.keep I _ o g t.fI,t.it.at.elim λa z=>G.free I _ z.1 t.fI,t.r.grow G t.L.fram⟩
theorem Ln.inI(t:Ln w h₀ U s₁ sc e I u v i σ s ρ):aP s.heap λb=>b=I:=λb o z x=>by subst z;exact t.it.at.elim λo' z=>sB (Qh (z.1.symm.trans x)) z.2
theorem Ln.item(t:Ln w h₀ U s₁ sc e I u v i σ s ρ)(f:s₁.heap.get? I=none)(R:aU w h₀ σ s')(G:aA (λb=>b=I) σ s σ s')(it:cy s'.heap I u v j)(o:∀b,jf e b-> ¬b=I):Ln w h₀ U s₁ sc e I u v j σ s' ρ:=
 ⟨R,aA.skipO t.L t.G G f,t.L.growX G t.inI o,it,t.fI,t.r.grow G t.inI⟩
end
inductive Jl(w:World)(h₀:Heap)(T:nc)(C:cj)(b:S)(ia:Hp)(s₁:Shared)(sc:Sc)(e:PySem.Env)(I:Addr)(u:Value)(v:V)(p:pa)(Q:KS)(l:Z7)(k:Nat)(s:Shared):Prop
 |mk {i:Nat} {σ:Hp} {ρ:Z8} (hk:k=l.length+1-i) (hi:i<=l.length) (t:Ln w h₀ ia s₁ sc e I u v i σ s ρ) (q:zK p (fS T C b) (λσ=>cC σ v l) Q (l.drop i) ρ σ)
omit X Y in
theorem Nt{t:Type}{M:Model}{A:Around}{x:Sem t}{Q:t->Shared->Prop}{E:V8}{s:Shared}(h:wpAny M A x Q bE s):wpAny M A x Q E s:=Qj h (λa a z=>z) λa a z=>z.elim
theorem DT(p:pa)(it:Internal.E){b:S}(hb:nh prog w h₀ T G N C d b):nh prog w h₀ T G N C d (.loop p it b):=dH (λ{sc x env ρ σ s Q A} g L R h q=>by
 apply Kk _ h;intro t y xs pos ps hp h1 h2 h3 h4;refine wpAny_For (aQ.go ((aD X Y it).ev g L R h2 q) λu s₁ v ia I U r₁ J=>?_) (gY (x:=y) h3);unfold ii at J;refine J.elim λl J=>zX I r₁ J.1 λob VR WR Xl=>?_;have f:s₁.heap.get? s₁.heap.objs.size=none:=lH (PD _);have f0:h₀.get? s₁.heap.objs.size=none:=by
  cases e:h₀.get? s₁.heap.objs.size with
  |none=>rfl
  |some o=>exact nomatch f.symm.trans (I.oldGet _ _ e)
 have RG:=I.more (s':={s₁ with heap:=s₁.heap.push ob}) (λb o e=>Ql _ e) rfl rfl;have r:∀b,jf env b-> ¬b=s₁.heap.objs.size:=λb hb e=>by subst e;exact((L.grow U).at hb).elim λo z=>nomatch f.symm.trans z.1
 refine codeAny_forLoop_any (Jl w h₀ T C b ia s₁ sc env s₁.heap.objs.size u v p Q l) (λk s' ⟨hk,cl,t,hq⟩=>?_) (l.length+1) (.mk rfl (PY _) ⟨RG.1,RG.2.up,(L.grow U).grow RG.2,Xl,I.fresh f,r₁.grow RG.2 aP.none⟩ J.2);rename_i i ma Yb;cases hx:l[i]? with
 |none=>rw[UZ.mpr (Se.mp hx)] at hq;refine Nt (wM g.1 t.R t.r hq.1 t.it hx λh' jl=>?_);have M:=eV (n:=s'.toks) t.R ⟨t.fI,f0⟩ (λo=>t.inI _ o rfl) (h':=h') λb o ci x=>jl b o ci x;exact Tb (.next M.1 (U.transN (aA.skipO t.L t.G M.2 f)) (t.L.growX M.2 t.inI r) hq.2)
 |some x=>
  have m:i<l.length:=(Qi.mp hx).1;rw[RE m,(Qi.mp hx).2] at hq;refine Nt (sP t.R t.r hq.1 t.it hx λyv h' tk ZA ql B=>?_);have M:=eV (n:=tk) t.R ⟨t.fI,f0⟩ (λo=>t.inI _ o rfl) (h':=h') λb o ci x=>ql.extBut b o ci x;refine xz (s:={s' with heap:=h',toks:=tk}) B (Nt (nP (s:={s' with heap:=h',toks:=tk}) hp (λz hz=>dC (h1 z hz)) g.1 (t.item f M.1 M.2 B r).L M.1 (ZA.grow M.2 t.inI) hq.2 λZf Wg Zb Zd bc hq=>?_));have nI: ¬jf env s₁.heap.objs.size:=λh=>r _ h rfl;have We:=(t.item f M.1 M.2 B r).own nI Zb (Zd.weaken λø ø ø x=>wW x) bc;refine fR.go (hb.many g bc Zb h4 hq) λfl WB c' Xg Wp j a c rf Zi=>?_;induction c' with
  |next=>cases rf;exact⟨_,(hk▸ST _ _ (RX m):l.length+1-(i+1)<k),.mk rfl m (We.own nI j a c) Zi⟩
  |cont=>cases rf;exact⟨_,(hk▸ST _ _ (RX m):l.length+1-(i+1)<k),.mk rfl m (We.own nI j a c) Zi⟩
  |ret v=>obtain⟨u,rfl,rf⟩:=rf;exact⟨.ret v,Xg,Wp,j,U.transN (We.own nI j a c).G,c,⟨u,rfl,rf⟩,Zi⟩) λø ø=>rfl
theorem fM:∀st:S,nh prog w h₀ T G N C d st
 |.nil=>Gv
 |.seq a r=>ER (fM a) (fM r)
 |.expr e=>CJ X Y e
 |.asg p e=>E8 X Y p e
 |.asg2 i j a b=>Dr X Y i j a b
 |.setAttr o n e=>wc X Y o n e
 |.setItem o i e=>xi X Y o i e
 |.augVar i op e=>yr X Y i op e
 |.augAttr o n op e=>xo X Y o n op e
 |.augItem o i op e=>wC X Y o i op e
 |.iff c a b=>F5 X Y c (fM a) (fM b)
 |.whl c b=>ES X Y c (fM b)
 |.loop p it b=>DT X Y p it (fM b)
 |.ret e=>GA X Y e
 |.ret0=>Ce
 |.cont=>Dj
 |.tryF b f=>Ci (fM b) (fM f)
 |.dead=>BR
end
mutual
theorem pG{ps:Y9}{us:X9}:∀{n:Nat},p∈ps.take n->n<=us.length->((ps.zip us).lookup p).isSome=true:=by
 induction ps generalizing us with
 |nil=>intro n h;simp at h
 |cons a ps ih=>
  intro n v r;cases us with
  |nil=>simp at r;subst r;simp at v
  |cons u us=>
   simp only[T8,QX];by_cases e:p==a
   ·simp [e]
   simp only[e];induction n with
   |zero=>simp at v
   |succ n=>
    simp only[List.take_succ_cons] at v;refine ih (n:=n) ?_ (by simpa using r);rcases P0.mp v with h|h
    ·simp [h] at e
    exact h
theorem xY{ps:Y9}{us:X9}(h:p∉ps):(ps.zip us).lookup p=none:=by
 induction ps generalizing us with
 |nil=>rfl
 |cons a ps ih=>
  induction us with
  |nil=>rfl
  |cons u us=>
   simp only[T8,QX];have:(p==a)=false:=by simp only[RB];rintro rfl;exact h (.head _)
   exact rR this (ih λx=>h (.tail _ x))
theorem pR:∀{ps:Y9}{us:X9},ps.Nodup->us.length=ps.length->ps.filterMap (λn=>Option.map (λx=>(n,x)) (List.lookup n (ps.zip us)))=ps.zip us
 |[],us,_,_=>by simp
 |a::ps,[],_,h=>by simp at h
 |a::ps,u::us,hn,h=>by
  rw[QK] at hn;refine rR Rt (rR T8 (rR QX ?_));simp only[SB,Option.map_some];congr 1;have:∀(l:Y9),a∉l->l.filterMap (λn=>Option.map (λx=>(n,x)) (List.lookup n ((a,u)::ps.zip us)))=l.filterMap (λn=>Option.map (λx=>(n,x)) (List.lookup n (ps.zip us))):=by
   intro l r;induction l with
   |nil=>rfl
   |cons x l ihl=>
    have i:(x==a)=false:=by simp only[RB];rintro rfl;exact r (.head _)
    exact rR Rt (rR Rt (rR (ihl λh=>r (.tail _ h)) (rR QX (rR i rfl))))
  rw[this ps hn.1,(pR hn.2 (us:=us) (by simpa using h))]
theorem AX{t f C B ρ:Type}{M:Model}{A:Around}{E:V8}{s:Shared}{Q:ρ->Shared->Prop}{x:Sem t}{a:t}{d:Sem f}{b:f}{c1 h:t->f->Prop}{N:∀a b,Decidable (c1 a b)}{T:∀a b,Decidable (h a b)}{p y:t->f->Sem ρ}{l:t->f->Sem C}{g:C}{m:t->f->C->Sem B}{e:B}{U:t->f->C->B->Sem ρ}(J:x=pure a)(hs:∀{P:f->Shared->Prop},P b s->wpAny M A d P E s)(L: ¬c1 a b)(i: ¬h a b)(G:l a b=pure g)(I:m a b g=pure e)(q:wpAny M A (U a b g e) Q E s):
  wpAny M A (x>>=λa=>d>>=λb=> @ite _ (c1 a b) (N a b) (p a b) (@ite _ (h a b) (T a b) (y a b) (l a b>>=λg=>m a b g>>=U a b g))) Q E s:=
 rR J (PN (Qa (PN (hs (rR (PV L) (rR (PV i) (PN (G▸Qa (PN (I▸Qa q))))))))))
noncomputable def wP(fd:FuncData)(ps:List Arg)(N:List (Option Expr))(o:List Expr):FuncData:={fd with params:=⟨[],ps,none,[],N,none,o⟩}
noncomputable abbrev kvs(ps:Y9)(i:List (Str×Value)):List (Str×Value):=ps.filterMap λn=>(i.lookup n).map (n, ·)
noncomputable abbrev FW(x:Str×Value)(r:List (Str×Value)):Sem (ForInStep (List (Str×Value))):=if(r.lookup x.1).isNone=true then pure (.yield (r++[(x.1,x.2)])) else pure (.yield r)
theorem Kt{p:Str->Bool}{l:Y9}(h:∀a∈l,p a=false): ¬(!(l.filter p).isEmpty)=true:=rR (List.filter_eq_nil_iff.mpr λa m=>(h a m).symm▸PC) PC
theorem CP{A:Around}{E:V8}{fd:FuncData}{N:List (Option Expr)}{us ds:X9}{v:Option (Array Value)}{u:List (Str×Value)}{Q:List (Str×Value)->Shared->Prop}(hs:∀{P:Option (Array Value)->Shared->Prop},P v s->wpAny M A (seqItems? fd.defaults) P E s)(r:us.length<=(ps.map (·.arg)).length)(c:(v.getD #[]).toList.drop ((v.getD #[]).toList.length-(ps.map (·.arg)).length)=ds)(i:∀a∈(ps.map (·.arg)).take ((ps.map (·.arg)).length-ds.length),(((ps.map (·.arg)).zip us).lookup a).isSome=true)(B:forIn (((ps.map (·.arg)).drop ((ps.map (·.arg)).length-ds.length)).zip ds) ((ps.map (·.arg)).zip us) FW=pure u)(q:Q (kvs (ps.map (·.arg)) u) s):wpAny M A (bindArgs (wP fd ps N df) ⟨us,[]⟩) Q E s:=
 AX rfl hs (λh=>TF.mpr r (P9 (vB h).1)) (Kt λa m=>T9.mpr (i a (sB c m))) (rR c B) rfl (Qa (rR (Qm _) q))
theorem Ge{a:Arguments}(C:a.posonlyargs=[])(d:a.kwonlyargs=[])(N:a.vararg=none)(n:a.kwarg=none):a=⟨[],a.args,none,[],a.kw_defaults,none,a.defaults⟩:=by cases a;cases C;refine(Qe (d))▸?_;cases N;refine(Qe (n))▸?_;rfl
theorem LJ{fd:FuncData}(C:fd.params.posonlyargs=[])(N:fd.params.kwonlyargs=[])(n:fd.params.vararg=none)(h:fd.params.kwarg=none):fd=wP fd fd.params.args fd.params.kw_defaults fd.params.defaults:=
 PR (λp=>{fd with params:=p}) (Ge C N n h)
theorem MA(h:FW x r=pure (.yield r')):forIn [x] r FW=(pure r':Sem _):=by rw[SJ,h];rfl
theorem DD{ps:Y9}{us ds:X9}(g:ps.Nodup)(r:us.length<=ps.length)(ao:ds.length<=1)(q:ds.length<=ps.length)(f:ps.length<=us.length+ds.length):
  forIn ((ps.drop (ps.length-ds.length)).zip ds) (ps.zip us) FW=pure (ps.zip (us++ds.drop (us.length+ds.length-ps.length))):=by
 match ds with
 |[]=>rw[Vi,Qm,List.zip_nil_right];rfl
 |[d]=>
  refine i5 ((List.eq_nil_or_concat ps).resolve_left λe=>VC (e▸q) (Sj _)) λqs p e=>?_;rw[List.concat_eq_append] at e;have el:ps.length=qs.length+1:=e▸PQ;refine rR (show ps.length-[d].length=qs.length from el▸rfl) (rR e (rR RS (sB e ?_)));refine MA (x:=(p,d)) ?_;by_cases z:us.length=qs.length
  ·rw[show us.length+[d].length-ps.length=0 from el▸z▸Sn _];have a:ps.zip us=qs.zip us:=by have:=List.zip_append (l₁:=qs) (l₂:=us) (r₁:=[p]) (r₂:=([]:X9)) z.symm;rw[Qm,<-e] at this;exact this.trans (Qm _)
   exact rR a ((PW (xY (us:=us) (λh=>(Q8.mp (e▸g)).2.2 p h p (.head _) rfl)▸rfl)).trans (PR (λl=>pure (ForInStep.yield l)) (e▸List.zip_append z.symm:ps.zip (us++[d])=qs.zip us++[(p,d)]).symm))
  have z:us.length=ps.length:=Qz r (el▸QN (Rg (el▸f:qs.length+1<=_)) (SX z));rw[z,Sy,show[d].drop [d].length=[] from rfl,Qm];exact PV (Qv.mp (T9.mpr (pG (n:=ps.length) (by refine rR SC (rR e ?_);exact PK _ (.head _)) (PI z.symm))))
 |_::_::_=>exact VC ao (VB.mpr (Qp 2 _))
theorem Ez{M:Model}{A:Around}{E:V8}{fd:FuncData}{us ds:X9}{v:Option (Array Value)}{Q:List (Str×Value)->Shared->Prop}(C:fd.params.posonlyargs=[])(d:fd.params.args.map (·.arg)=ps)(N:fd.params.kwonlyargs=[])(n:fd.params.vararg=none)(h:fd.params.kwarg=none)(e:ps.Nodup)(r:us.length<=ps.length)(ao:ds.length<=1)(p:ds.length<=ps.length)(g:ps.length<=us.length+ds.length)(t:(v.getD #[]).toList=ds)(hs:∀{P:Option (Array Value)->Shared->Prop},P v s->wpAny M A (seqItems? fd.defaults) P E s)(q:Q (ps.zip (us++ds.drop (us.length+ds.length-ps.length))) s):wpAny M A (bindArgs fd ⟨us,[]⟩) Q E s:=by
 subst d
 refine(PR (λf=>wpAny M A (bindArgs f ⟨us,[]⟩) Q E s) (LJ C N n h)).mpr (CP hs r (rR t (rR (UR p) rfl)) (λa m=>pG m (Nat.sub_le_iff_le_add.mpr g)) (DD e r ao p g) ?_)
 rw[kvs,pR e]
 ·exact q
 ·refine rR PQ (rR Rr ?_);exact N2 r g
noncomputable def vN:Value->Bool|.none=>true|_=>false
noncomputable def vI(i:Int):Value->Bool|.int j _=>decide (i=j)|_=>false
noncomputable def vS(i:Str):Value->Bool|.str j _=>decide (i=j)|_=>false
noncomputable def vR(f:Addr->Bool):Value->Bool|.ref a=>f a|_=>false
def LT(v:V)(u:Value):Bool:=v.casesOn (vN u) (λa=>false) (λi=>vI i u) (λs=>vS s u) (λa=>false) (λa=>false) (λa=>false) (λa=>false)
noncomputable def D8:Z7->X9->Bool
 |[],vs=>vs.isEmpty
 |a::l,vs=>vs.casesOn false λb r=>LT a b&&D8 l r
noncomputable def L0(f:X9->Bool):Data->Bool|.seq items _=>f items.toList|_=>false
def Es(K:Frag)(v:Value)(ds:Z7):Bool:=(vN v&&ds.isEmpty)||vR (λt=>Ey (λo=>L0 (D8 ds) o.data) (K.lookup t)) v
noncomputable def iC(ps:Y9)(slots:List (Str×Nat))(w:Nat):Bool:=
 decide (ps=(slots.take w).map (·.1))&&decide ((slots.take w).map (·.2)=List.range w)&&(slots.drop w).all (λp=>decide (w<=p.2))&&decide ps.Nodup
noncomputable def ux(ps:Y9)(names:List (Str×NameKind)):Bool:=
 ps.all (λp=>names.lookup p==some .local||names.lookup p==some .cell)&&decide ((names.map (·.1)).Nodup)
noncomputable def Id(f:List Stmt->Bool):FuncBody->Bool|.stmts body=>f body|_=>false
noncomputable def GP(f:FuncData->Bool):Data->Bool|.func fd=>f fd|_=>false
def Kj(G:W7)(N:V7)(K:Frag)(F:Fn)(slots:List (Str×Nat))(fd:FuncData)(body:List Stmt):Bool:=fd.globals==mainGlobals&&fd.builtins==builtinsNs&&fd.closure.isEmpty&&codeIn K fd.code fd.qualname&& !fd.scope.isCoroutine&& !fd.scope.isGenerator&&fd.scope.kind==.function&&
     fd.params.posonlyargs.isEmpty&&fd.params.kwonlyargs.isEmpty&&fd.params.vararg.isNone&&fd.params.kwarg.isNone&&iC (fd.params.args.map (·.arg)) slots F.np&&ux (fd.params.args.map (·.arg)) fd.scope.names&&
     Es K fd.defaults F.dfl&&decide (F.dfl.length<=1)&&decide (F.dfl.length<=F.np)&&b9 G N F.body ⟨fd.scope.names,slots⟩ body
def MW(G:W7)(N:V7)(K:Frag)(f:Addr)(F:Fn)(slots:List (Str×Nat)):Bool:=Ey (λo=>GP (λfd=>Id (Kj G N K F slots fd) fd.body) o.data) (K.lookup f)
theorem Ba{f:FuncData->Bool}(h:GP f d=true):∃fd,d=.func fd/\f fd=true:=by induction d<;>first|exact(aK _ rfl h)|exact VC h PC
theorem Dl{f:X9->Bool}(h:L0 f d=true):∃items n,d=.seq items n/\f items.toList=true:=by induction d<;>first|exact(rS _ _ rfl h)|exact VC h PC
end
section
variable{w:World}{σ:Hp}{s:Shared}
section
variable{h₀:Heap}
theorem B5(e:LT a v=true):aG σ h a v:=by
 cases a<;>first|exact VC e PC|(induction v<;>first|exact VC e PC|skip)
 ·exact fg
 ·exact rR (P9 e) bD
 exact rR (P9 e) gQ
theorem tG:∀{a:Z7}{v:X9},D8 a v=true->an (aG σ h) a v
 |[],v,e=>by exact rR (Q4.mp e) .nil
 |a::l,[],e=>VC e PC
 |a::l,b::r,e=>.cons (B5 (vB e).1) (tG (vB e).2)
theorem nY(h:names.lookup x=some .cell\/(acc.lookup x).isSome=true):((cellsFrom n names acc).lookup x).isSome=true:=by
 induction names generalizing n acc with
 |nil=>exact h.elim (λh=>by cases h) λh=>h
 |cons p r ih=>
  obtain⟨m,k⟩:=p;unfold cellsFrom;by_cases e:x=m
  ·subst e;refine RD (h) (λh=>?_) λh=>?_
   ·simp only[QX] at h;simp only[SB,Option.some.injEq] at h;subst h;exact ih (.inr (by simp only[QX];simp))
   split
   ·exact ih (.inr (by simp only[QX];simp))
   exact ih (.inr h)
  have b:(x==m)=false:=by simpa using e
  have:r.lookup x=some .cell\/(acc.lookup x).isSome=true:=by
   refine RD (h) (λh=>?_) λh=>?_
   ·simp only[QX,b] at h;exact .inl h
   exact .inr h
  split
  ·refine ih (this.imp_right λh=>?_);simp only[QX,b];exact h
  exact ih this
theorem tH{k:Str->Option NameKind}:∀{bs:List (Str×Value)}{m:Str->X8},x∉bs.map (·.1)->bindL k bs m x=m x
 |[],_,_=>rfl
 |(n,v)::r,m,h=>by have i:x≠n:=λe=>h (by simp [e]);refine(Qe (tH λq=>h (by simp at q⊢;exact .inr q)))▸?_;split<;>simp [i]
theorem sZ{k:Str->Option NameKind}(c:k x=some .local):∀{bs:List (Str×Value)}{m:Str->X8},(bs.map (·.1)).Nodup->(x,u)∈bs->bindL k bs m x=some u
 |(n,v)::r,m,hn,h=>by
  rw[QG,QK] at hn;unfold bindL;refine RD (P0.mp h) (λe=>?_) λh=>?_
  ·cases e;refine rR (tH hn.1) (rR (PW c) ?_);simp
  exact sZ c hn.2 h
theorem tU{k:Str->Option NameKind}:∀{bs:List (Str×Value)}{m:Str->X8},x∉bs.map (·.1)->bindC k bs m x=m x
 |[],_,_=>rfl
 |(n,v)::r,m,h=>by have i:x≠n:=λe=>h (by simp [e]);refine(Qe (tU λq=>h (by simp at q⊢;exact .inr q)))▸?_;split<;>simp [i]
theorem tR{k:Str->Option NameKind}(c: ¬k x=some .local):∀{bs:List (Str×Value)}{m:Str->X8},(bs.map (·.1)).Nodup->(x,u)∈bs->bindC k bs m x=some u
 |(n,v)::r,m,hn,h=>by
  simp only[QG,QK] at hn;unfold bindC;refine RD (P0.mp h) (λe=>?_) λh=>?_
  ·cases e;refine rR (tU hn.1) (rR (PV c) ?_);simp
  exact tR c hn.2 h
theorem get_none:∀{n i:Nat}{v:V},get (List.replicate n none) i=some v->False
 |0,_,_,h=>nomatch h
 |_+1,0,_,h=>nomatch (show none=some _ from h)
 |n+1,i+1,_,h=>get_none (n:=n) (i:=i) h
theorem uP:∀{vs:Z7}{n i:Nat},get (HG vs n) i=some v->vs[i]?=some v
 |[],n,i,h=>(get_none h).elim
 |a::l,n,0,h=>h
 |a::l,n,i+1,h=>uP (vs:=l) h
theorem yu(h:iC ps slots np=true)(k:slots.lookup x=some i)(hi:i<np):ps[i]?=some x:=by
 simp only[iC,QW,SP] at h;refine dQ (h) λN _=>dQ (N) λc Q=>?_;obtain⟨C,d⟩:=c;have M:=Rv k;rw[<-Rm np slots] at M;rcases P3.mp M with M|M
 ·obtain⟨j,I,e⟩:=List.getElem_of_mem M;have G:((slots.take np).map (·.2))[j]?=some i:=by refine(Qe (QS))▸?_;refine rR (P4 I) ?_;refine rR e ?_;rfl
  rw[d,List.getElem?_range (by
   have:j<((slots.take np).map (·.2)).length:=by simpa using I
   rw[d] at this;simpa using this)] at G;cases G;refine rR C (rR QS ?_);refine rR (P4 I) ?_;refine rR e ?_;rfl
 have:=Qc.mp Q _ M;rw[SP] at this;dsimp only at this;lia
theorem GH{ps:Y9}{i:Nat}{u:Value}(C:ps[i]?=some x)(d:us[i]?=some u):(x,u)∈ps.zip us:=by refine QO (i:=i) ?_;rw[List.getElem?_zip_eq_some];exact⟨C,d⟩
end
structure zA(K:Frag)(h₀:Heap)(T:nc)(G:W7)(N:V7):Prop where
 lim:h₀.NoLimit
 fn:∀f F,T.fn f=some F->∃slots,MW G N K f F slots=true
theorem aY(h:(a&&b)=true):a=true:=(vB h).1
theorem xC(h:(a&&b)=true):b=true:=(vB h).2
theorem OK(h:(!a)=true):a=false:=(QD a).mp h
theorem C8{G:W7}{N:V7}{K:Frag}{slots:List (Str×Nat)}{body:List Stmt}{Z:Prop}(h:Kj G N K F slots fd body=true)(k:fd.globals=mainGlobals->fd.builtins=builtinsNs->fd.closure=[]->codeIn K fd.code fd.qualname=true->fd.scope.isCoroutine=false->fd.scope.isGenerator=false->fd.scope.kind=.function->fd.params.posonlyargs=[]->fd.params.kwonlyargs=[]->fd.params.vararg=none->fd.params.kwarg=none->iC (fd.params.args.map (·.arg)) slots F.np=true->ux (fd.params.args.map (·.arg)) fd.scope.names=true->Es K fd.defaults F.dfl=true->F.dfl.length<=1->F.dfl.length<=F.np->b9 G N F.body ⟨fd.scope.names,slots⟩ body=true->Z):Z:=
 k (Qd.mp (aY (aY (aY (aY (aY (aY (aY (aY (aY (aY (aY (aY (aY (aY (aY (aY h))))))))))))))))) (Qd.mp (xC (aY (aY (aY (aY (aY (aY (aY (aY (aY (aY (aY (aY (aY (aY (aY h))))))))))))))))) (Q4.mp (xC (aY (aY (aY (aY (aY (aY (aY (aY (aY (aY (aY (aY (aY (aY h)))))))))))))))) (xC (aY (aY (aY (aY (aY (aY (aY (aY (aY (aY (aY (aY (aY h)))))))))))))) (OK (xC (aY (aY (aY (aY (aY (aY (aY (aY (aY (aY (aY (aY h)))))))))))))) (OK (xC (aY (aY (aY (aY (aY (aY (aY (aY (aY (aY (aY h))))))))))))) (Qd.mp (xC (aY (aY (aY (aY (aY (aY (aY (aY (aY (aY h)))))))))))) (Q4.mp (xC (aY (aY (aY (aY (aY (aY (aY (aY (aY h))))))))))) (Q4.mp (xC (aY (aY (aY (aY (aY (aY (aY (aY h)))))))))) (S3.mp (xC (aY (aY (aY (aY (aY (aY (aY h))))))))) (S3.mp (xC (aY (aY (aY (aY (aY (aY h)))))))) (xC (aY (aY (aY (aY (aY h)))))) (xC (aY (aY (aY (aY h))))) (xC (aY (aY (aY h)))) (P9 (xC (aY (aY h)))) (P9 (xC (aY h))) (xC h)
section
variable{prog:Program}{h₀:Heap}{T:nc}{G:W7}{N:V7}{K:Frag}{A:Around}{d:Nat}
def MD(w:World)(h₀:Heap)(σ:Hp)(s:Shared)(Q:V->Hp->Prop)(r:Result)(s':Shared):=∃v,r=.ok (.ret v)/\aQ w h₀ σ s Q v s'
def qt(prog:Program)(w:World)(h₀:Heap)(d:Nat)(C:cj):Prop:=
 ∀{A:Around}{f:Addr}{vs:Z7}{us:X9}{σ:Hp}{s:Shared}{Q:V->Hp->Prop},Good d A->aU w h₀ σ s->an (aG σ s.heap) vs us->C f vs σ Q->
  codeAny (model prog w) A (.call (.ref f) ⟨us,[]⟩) (MD w h₀ σ s Q) s
theorem qt.call(h:qt prog w h₀ d C):lW prog w h₀ d C:=λg R r q=>wpAny_call (codeAny_mono (h g R r q) λr s' z=>by obtain⟨v,rfl,z⟩:=z;exact z)
theorem CA(X:K.In s.heap)(h:Es K dv ds=true):∃(o:Option (Array Value))(us:X9),(o.getD #[]).toList=us/\an (aG σ s.heap) ds us/\
  ∀{M:Model}{A:Around}{E:V8}{P:Option (Array Value)->Shared->Prop},P o s->wpAny M A (seqItems? dv) P E s:=by
 refine RD (Qw.mp h) (λh=>?_) λh=>?_
 ·refine dQ (vB h) λC e=>rR (Q4.mp e) ?_;induction dv<;>first|exact VC C PC|skip
  exact(ng none ([]) rfl .nil Qa)
 ·induction dv<;>first|exact VC h PC|skip
  exact am (fP h) λo g h=>eA (Dl h) λitems n ao h=>(ng (some items) items.toList rfl (tG h) (λq=>wpAny_seqItems (X _ _ g) ao q))
theorem Gi(X:Ctx w K h₀ T G N)(Y:zA K h₀ T G N){C:cj}(hC:lW prog w h₀ d C){F:Fn}(hf:T.fn f=some F){us:X9}{Q:V->Hp->Prop}(g:Good (d+1) A)(R:aU w h₀ σ s)(r:an (aG σ s.heap) vs us)(h1:vs.length<=F.np)(h2:F.np<=vs.length+F.dfl.length)(q:fS T C F.body (HG (vs++F.dfl.drop (vs.length+F.dfl.length-F.np)) F.nslots) σ (fJ Q)):codeAny (model prog w) A (.call (.ref f) ⟨us,[]⟩) (MD w h₀ σ s Q) s:=by
 refine jn (Y.fn f F hf) λslots l=>am (fP l) λo ho l=>?_
 refine am (Ba l) λfd ao l=>?_
 obtain⟨body,hb,l⟩:∃body,fd.body=.stmts body/\Kj G N K F slots fd body=true:=by
  cases e:fd.body with
  |stmts body=>rw[e] at l;exact(aK body rfl l)
  |_=>rw[e] at l;exact VC l PC
 refine C8 l λcg cb cc hY TY VG l VY WY XY YY U eS ZY VZ WZ XZ=>?_
 have XI:=X.inn.keeps R.oldGet
 refine dg (CA (σ:=σ) XI ZY) λdv ds YZ hS WG=>?_
 have I:(fd.params.args.map (·.arg)).length=F.np:=by have:=U;simp only[iC,QW,SP] at this;obtain⟨⟨⟨e1,e2⟩,_⟩,_⟩:=this;simp only[e1,PL];have:=PR List.length e2;simpa using this
 have qk:(fd.params.args.map (·.arg)).Nodup:=by simp only[iC,QW,SP] at U;exact U.2
 have lu:=r.length
 have ld:=hS.length
 simp only[ux,QW,Qc,UP,Qd,SP] at eS
 refine codeAny_call_function (by have:=g.2.2;exact lq this) (XI _ _ ho) ao TY VG hb (codeRec_of XI hY) (Ez (ds:=ds) VY rfl WY XY YY qk (lq (aO h1 (aO (mO I) (mO lu)))) (lq (aO VZ (mO ld))) (lq (aO WZ (aO (mO I) (mO ld)))) (lq (aO h2 (aO (fW I) (aO (fW lu) (fW ld))))) YZ WG ?_)
 refine rR cc ?_
 have XG:((fd.params.args.map (·.arg)).zip (us++ds.drop (us.length+ds.length-(fd.params.args.map (·.arg)).length))).map (·.1)=fd.params.args.map (·.arg):=by rw[List.map_fst_zip];refine rR PQ (rR Rr ?_);exact PI (by refine rR I (sB lu (sB ld ?_));exact(N2 h1 h2).symm)
 have m:an (aG σ s.heap) (vs++F.dfl.drop (vs.length+F.dfl.length-F.np)) (us++ds.drop (us.length+ds.length-(fd.params.args.map (·.arg)).length)):=by rw[I,<-lu,<-ld];exact r.append (hS.drop _)
 have WS:(us++ds.drop (us.length+ds.length-(fd.params.args.map (·.arg)).length)).length=F.np:=by simp only[PQ,Rr,I,<-lu,<-ld];exact N2 h1 h2
 generalize us++ds.drop (us.length+ds.length-(fd.params.args.map (·.arg)).length)=ws at XG m WS
 generalize vs++F.dfl.drop (vs.length+F.dfl.length-F.np)=zs at q m
 have Xp:(((fd.params.args.map (·.arg)).zip ws).map (·.1)).Nodup:=by exact rR XG qk
 refine wpAny_newFunctionEnv_cells (rR l rfl) (λx hx=>?_) λenv he s' x=>?_
 ·have ZZ:x.1∈fd.params.args.map (·.arg):=by rw[<-XG];exact List.mem_map_of_mem hx
  rcases eS.1 _ ZZ with e|e
  ·exact .inl e
  exact .inr ⟨e,nY (.inl e)⟩
 ·have Zt:=x.toInCall.fresh;refine eA x.done λh' tk YG keep=>?_;obtain⟨R',G'⟩:=R.more (s':=s') (λb o e=>rR YG (keep b o e)) (by subst YG;rfl) (by subst YG;rfl);have j:env.scope=fd.scope:=by rw[he];rfl
  have B:env.cells=cellsFrom (s.heap.objs.size+1) fd.scope.names []:=by refine(Qe he)▸?_;rfl
  have a:env.locals=s.heap.objs.size:=by refine he▸?_;rfl
  have p:∀y,env.kindOf y=fd.scope.names.lookup y:=λy=>by unfold PySem.Env.kindOf;exact rR j rfl
  have h:∀b,jf env b->s.heap.objs.size<=b:=by
   rintro b (rfl|⟨y,J⟩)
   ·rw[a];exact PD _
   have:=x.above y b (Rv J);exact P2 (PJ Zt this)
  have par:∀y i v,slots.lookup y=some i->get (HG zs F.nslots) i=some v->∃u,(y,u)∈(fd.params.args.map (·.arg)).zip ws/\aG σ s.heap v u:=λy i v J hv=>by
   refine am (m.get i v (uP hv)) λu e2 hr=>?_;have hi:i<F.np:=by have:=(Qi.mp (uP hv)).1;exact lq (aO (fW WS) (aO this (fW m.length)))
   exact(aK u (GH (yu U J hi) e2) hr)
  have L:Loc ⟨fd.scope.names,slots⟩ env h₀ s'.heap σ (HG zs F.nslots):=by
   refine⟨by exact rR j (rR l rfl),by rw[j],by refine rR he ?_;exact cg,by refine(Qe he)▸?_;exact cb,?_,?_,?_,?_,?_,?_⟩
   ·refine(aK _ x.toInCall.ns (λy i v J hv hk=>?_));exact am (par y i v J hv) λu hm hr=>(aK u (sZ (by rw[p];exact hk) Xp hm) (hr.grow G' aP.none))
   ·exactλy c hc=>⟨_,x.cell y c hc⟩
   ·intro y i v J hv hk;obtain⟨u,hm,hr⟩:=par y i v J hv;refine jn (Q3.mp (nY (n:=s.heap.objs.size+1) (acc:=[]) (.inl hk))) λc hc=>?_;have XS:env.cells.lookup y=some c:=by refine rR B ?_;exact hc
    have:=x.cell y c XS;rw[tR (by rw[p,hk];decide) Xp hm] at this;exact(ng c u XS this (hr.grow G' aP.none))
   ·intro b hb;have ge:=lH (h b hb);refine⟨R.fresh ge,?_⟩;cases e:h₀.get? b with
    |none=>rfl
    |some o=>have:=R.oldGet _ _ e;rw[ge] at this;cases this
   ·exactλy z c J hz=>name_of_addr x.apart (Rv J) (Rv hz)
   exactλy J=>rR B (nY (.inl J))
  refine⟨Y.lim.keeps R'.oldGet,codeAny_func ?_⟩;have gd:Good d (A.deeper env):=⟨g.1,by have:=g.2.1;show A.units+3+10*d+100<cLine;exact lq this,by have:=g.2.2;show A.depth+1+d<=recursionLimit;exact lq this⟩;refine fR.go ((fM X hC F.body).many gd L R' XZ q) λfl oa c k Zn t oc q0 rf M=>?_;have GG:aA aS σ s k oa:=G'.transN oc|>.weaken λb o e hb=>by rw[lH (h b hb)] at e;cases e
  induction c with
  |next=>cases rf;exact⟨_,rfl,.none,k,t,GG,fg,M⟩
  |cont=>cases rf;exact⟨_,rfl,.none,k,t,GG,fg,M⟩
  |ret v=>obtain⟨u,rfl,rf⟩:=rf;exact⟨_,rfl,v,k,t,GG,rf,M⟩
theorem aU.inst{g:Array GenState}{t:Nat}{os:OsState}(R:aU w h₀ σ ⟨h,g,dr,t,os⟩)(C:Addr):
  aU w h₀ (upd (upd σ h.objs.size (.slot (h.objs.size+1))) (h.objs.size+1) (.inst C h.objs.size [])) ⟨(h.push emptyDict).push (instObj C h.objs.size),g,dr,t,os⟩/\
  aA aS σ ⟨h,g,dr,t,os⟩ (upd (upd σ h.objs.size (.slot (h.objs.size+1))) (h.objs.size+1) (.inst C h.objs.size [])) ⟨(h.push emptyDict).push (instObj C h.objs.size),g,dr,t,os⟩:=by
 have Q:∀b o,h.get? b=some o->((h.push emptyDict).push (instObj C h.objs.size)).get? b=some o:=λb o e=>Ql _ (Ql _ e)
 have B:h.get? (h.objs.size+1)=none:=lH (Qt _)
 have i:σ (h.objs.size+1)=none:=R.fresh B
 have G:aA aS σ ⟨h,g,dr,t,os⟩ (upd (upd σ h.objs.size (.slot (h.objs.size+1))) (h.objs.size+1) (.inst C h.objs.size [])) ⟨(h.push emptyDict).push (instObj C h.objs.size),g,dr,t,os⟩:=by
  refine⟨λb o a e a=>Q b o e,λb o e f=>?_,λb e=>iS (iS e),rfl⟩;have J:b≠h.objs.size:=λq=>by subst q;replace e:=((bH h:h.get? h.objs.size=none))▸e;cases e
  have l:b≠h.objs.size+1:=λq=>by subst q;replace e:=(B)▸e;cases e
  exact rR (bT l) (rR (bT J) (rR f rfl))
 refine⟨⟨λx o e=>?_,λb o e=>⟨?_,Q b o (R.old b o e).2⟩,R.gens⟩,G⟩
 ·by_cases I:x=h.objs.size+1
  ·subst I;replace e:=(bO)▸e;cases e;refine⟨(bT (λz=>BE (mO z):h.objs.size≠h.objs.size+1)).trans bO,by heap_get,[],0,?_,.nil,SR⟩;exact Ql _ (QV _ rfl)
  replace e:=(bT I)▸e;by_cases U:x=h.objs.size
  ·subst U;replace e:=(bO)▸e;cases e;exact⟨_,_,bO⟩
  replace e:=(bT U)▸e;have r:∀{b o},σ b=some o->upd (upd σ h.objs.size (.slot (h.objs.size+1))) (h.objs.size+1) (.inst C h.objs.size []) b=some o:=λ{b o} p=>(bT λz=>S7 _ (p.symm.trans ((PR σ z).trans i))).trans ((bT λz=>S7 _ (p.symm.trans ((PR σ z).trans (R.fresh (bH h:h.get? h.objs.size=none):σ h.objs.size=none)))).trans p);exact(R.conc x o e).mono (λa a x=>x.grow G aP.none) (λa q=>Q _ _) (λu dx v a=>⟨λq=>Q _ _,r⟩) λy a u v p=>(vy u v (r p))
 ·exact G.free b o (R.old b o e).2 (R.old b o e).1
theorem EU(X:Ctx w K h₀ T G N)(Y:zA K h₀ T G N)(d:Nat):qt prog w h₀ d (ad T d):=by
 induction d with
 |zero=>exactλc c c q=>q.elim
 |succ d k=>
  intro A f vs us σ s Q g R r q;induction q with
  |fn p I J q=>exact Gi X Y (qt.call k) p g R r I J q
  |cls B e q=>
   subst e;have l:=X.inn.keeps R.oldGet;obtain rfl:=r.nr;obtain⟨mk,hi⟩:=X.tab.cls0 f B;obtain⟨h,y,dr,t,os⟩:=s;refine dQ (R.inst f) λn m=>make_core (makes_of (M:=model prog w) l mk) (looks_findIn l hi) (λi=>Looks.of_pure (oi_bind i)) (.inr ⟨rfl,rfl⟩) ?_;have C:((h.push emptyDict).push (instObj f h.objs.size)).get? (h.objs.size+1)=some (instObj f h.objs.size):=by heap_get
   have L:Looks (model prog w) ((h.push emptyDict).push (instObj f h.objs.size)) (typeOf (.ref (h.objs.size+1))) (.ref f):=(Looks.ld C).andThen .now;have U:Looks (model prog w) ((h.push emptyDict).push (instObj f h.objs.size)) (isInstance (.ref (h.objs.size+1)) (.type "object")) true:=L.andThen ((makes_of (M:=model prog w) l mk).top.keeps λb o e=>Ql _ (Ql _ e));refine codeAny_call_builtin oi_plain entry_oi (@check_slot (model prog w) _ _ _ "object.__init__" "object" "__init__" (.ref (h.objs.size+1)) [] [] _ oi_kind oi_split U (oi_args (.ref (h.objs.size+1))) ?_);simp only[oi_run];refine Qa (And.intro rfl ⟨_,rfl,.ref (h.objs.size+1),_,n,m,?_,q (h.objs.size+1) h.objs.size (Nat.succ_ne_self _) (R.fresh (lH (Qt _))) (R.fresh (bH h))⟩);exact⟨rfl,by simp only[bO];rfl⟩
  | @ini gI B q=>
   have l:=X.inn.keeps R.oldGet;obtain⟨mk,hi,ht⟩:=X.tab.cls f gI B;obtain⟨h,y,dr,t,os⟩:=s;refine dQ (R.inst f) λn m=>?_;have q:=q (h.objs.size+1) h.objs.size (Nat.succ_ne_self _) (R.fresh (lH (Qt _))) (R.fresh (bH h));have q:ad T d gI (.ref (h.objs.size+1)::vs) _ (zU (.ref (h.objs.size+1)) Q):=q;refine make_core (makes_of (M:=model prog w) l mk) (looks_findIn l hi) (λi=>bind_fn l i ht) (.inl rfl) ?_;have j:Good d (A.under (.builtin "type.__call__" ⟨.ref f::us,[]⟩)):=by
    refine⟨g.1,?_,?_⟩
    ·have:=g.2.1;have e:(Code.builtin "type.__call__" ⟨.ref f::us,[]⟩).cUnits<=5:=by
      show(Code.builtin "type.__call__" ⟨.ref f::us,[]⟩).cUnits<=5;unfold Code.cUnits;have:(Code.builtin "type.__call__" ⟨.ref f::us,[]⟩).frames=0:=by rfl
      simp only[this];decide
     show A.units+(Code.builtin "type.__call__" ⟨.ref f::us,[]⟩).cUnits+10*d+100<cLine;exact lq (aO this e)
    have:=g.2.2;simp only[depth_under_kw];exact lq this
   refine codeAny_mono (k (us:=.ref (h.objs.size+1)::us) j n (.cons (a:=.ref (h.objs.size+1)) (show aG _ _ (.ref _) _ from⟨rfl,by simp only[bO];rfl⟩) (r.mono λc c x=>x.grow m aP.none)) q) λrr s' z=>?_;obtain⟨v,rfl,u,ma,Xb,oc,ru,rfl,fb⟩:=z;refine⟨ru,⟨_,rfl,.ref (h.objs.size+1),ma,Xb,m.trans oc,?_,fb⟩⟩;exact⟨rfl,oc.dom _ (by simp only[bO];rfl)⟩
theorem BJ(X:Ctx w K h₀ T G N)(Y:zA K h₀ T G N)(d:Nat):lW prog w h₀ d (ad T d):=qt.call (EU X Y d)
end
end
end
section
section
local macro_rules |`([$a])=>`(.cons $a .nil)|`([$a, $s,*])=>`(.cons $a [$s,*])
local macro_rules |`(#[$a])=>`(.seq $a .nil)|`(#[$a, $s,*])=>`(.seq $a #[$s,*])
local macro_rules |`({$n:num})=>`(.var $n)
local macro_rules |`(($n:num))=>`(.lit (.int $n))|`(($s:str, $n:num))=>`(.glob $s (.int $n))
mutual
noncomputable def wI:S:=#[.setAttr {0} "kind" {1},.setAttr {0} "a" {2},.setAttr {0} "kids" {3},.setAttr {0} "flags" {4},.setAttr {0} "at" {5},.setAttr {0} "nid" (0)]
def oF:Fn:=⟨6,[],6,wI⟩
noncomputable def AI:S:=#[.ret (.call 38 "Node" [{0},{1},{2},{3},{4}])]
def tE:Fn:=⟨5,[],5,AI⟩
noncomputable def Lg:S:=#[.ret (.cmp .NotEq (.bin .BitAnd (.attr {0} "flags") {1}) (0))]
def HN:Fn:=⟨2,[],2,Lg⟩
noncomputable def vZ:S:=#[.setAttr {0} "number" {1},.setAttr {0} "at" {2},.setAttr {0} "args" {3},.setAttr {0} "file" {4}]
def oD:Fn:=⟨5,[],5,vZ⟩
noncomputable def u6:S:=#[.setAttr {0} "rows" (.list .nil),.setAttr {0} "file" {1}]
def mU:Fn:=⟨2,[.str ""],2,u6⟩
noncomputable def wR:S:=#[.expr (.meth (.attr {0} "rows") "append" [.call 141 "Diag" [{1},{2},{3},.attr {0} "file"]])]
def oQ:Fn:=⟨4,[],4,wR⟩
noncomputable def k5:S:=#[.expr (.meth {0} "put" [{1}])]
def nC:S:=#[.setAttr {0} "rows" (.list .nil),.setAttr {0} "index" (.dict .nil),.setAttr {0} "decls" (.list [.lit .none]),.setAttr {0} "bounds" (.list .nil),.setAttr {0} "defaults" (.list .nil),.setAttr {0} "names" (.list .nil),.setAttr {0} "origins" (.dict .nil),.setAttr {0} "renamed" (.dict .nil),.setAttr {0} "shaping" (0),.setAttr {0} "putting" (0),.loop (.one 1) (.glob "FIRST_ROWS" (.tup [.tup [.int 1,.str "any"],.tup [.int 1,.str "unknown"],.tup [.int 1,.str "never"],.tup [.int 1,.str "void"],.tup [.int 1,.str "undefined"],.tup [.int 1,.str "null"],.tup [.int 1,.str "string"],.tup [.int 1,.str "number"],.tup [.int 2,.int 0,.int 0],.tup [.int 2,.int 1,.int 0],.tup [.int 1,.str "object"],.tup [.int 8,.tup [],.tup [],.tup [],.tup [],.tup [],.int 0],.tup [.int 6,.tup [.int 8,.int 9]],.tup [.int 1,.str "error"],.tup [.int 2,.int 0,.int 1],.tup [.int 2,.int 1,.int 1]])) k5]
def hZ:Fn:=⟨1,[],2,nC⟩
noncomputable def pc:S:=#[.iff (.cmp .In {1} (.attr {0} "index")) #[.ret (.item (.attr {0} "index") {1})] .nil,.asg (.one 2) (.bi .len [.attr {0} "rows"]),.expr (.meth (.attr {0} "rows") "append" [{1}]),.setItem (.attr {0} "index") {1} {2},.ret {2}]
def fy:Fn:=⟨2,[],3,pc⟩
noncomputable def A5:S:=#[.ret (.item (.item (.attr {0} "rows") {1}) (0))]
def Bc:Fn:=⟨2,[],2,A5⟩
noncomputable def xG:S:=#[.ret (.meth {0} "put" [.tup [("Y_STR",3),{1},{2}]])]
def qF:Fn:=⟨3,[.int 0],3,xG⟩
noncomputable def xF:S:=#[.ret (.meth {0} "put" [.tup [("Y_NUM",4),{1},{2}]])]
def qH:Fn:=⟨3,[.int 0],3,xF⟩
noncomputable def u5:S:=#[.ret (.meth {0} "put" [.tup [("Y_ARRAY",11),{1},{2}]])]
def m0:Fn:=⟨3,[.int 0],3,u5⟩
noncomputable def rU:S:=#[.iff (.cmp .In (.item (.item {0} {3}) (1)) {1}) #[.asg (.one 2) {3}] .nil]
def wa:S:=#[.asg (.one 2) (.neg (1)),.loop (.one 3) (.bi .range [.bi .len [{0}]]) rU,.ret {2}]
def oK:Fn:=⟨2,[],4,wa⟩
noncomputable def lJ:S:=#[.asg (.two 5 6) (.item {1} {4}),.iff (.and [.cmp .Eq {6} ("E_OPT",1),.cmp .Lt {4} {2}]) #[.expr (.meth {3} "append" [.tup [.call 361 "add_undef" [{0},{5}],("E_NEED",0)]])] #[.expr (.meth {3} "append" [.tup [{5},{6}]])]]
def og:S:=#[.asg (.one 2) (.call 279 "last_mark" [{1},.tup [("E_NEED",0)]]),.asg (.one 3) (.list .nil),.loop (.one 4) (.bi .range [.bi .len [{1}]]) lJ,.ret {3}]
def ip:Fn:=⟨2,[],7,og⟩
noncomputable def uk:S:=#[.iff (.and [.cmp .Lt {3} (0),.cmp .Eq (.item (.item {1} {4}) (1)) ("E_REST",2)]) #[.asg (.one 3) {4}] .nil]
noncomputable def uA:S:=#[.expr (.meth {5} "append" [.ite (.cmp .Eq {7} ("E_OPT",1)) (.call 361 "add_undef" [{0},{6}]) {6}])]
def yM:S:=#[.asg (.one 3) (.neg (1)),.loop (.one 4) (.bi .range [.bi .len [{1}]]) uk,.iff (.or [.cmp .Lt {3} (0),.cmp .LtE {2} {3}]) #[.ret {1}] .nil,.asg (.one 5) (.list .nil),.loop (.two 6 7) (.slice {1} {3} (.bin .Add {2} (1)) (.lit .none)) uA,.ret (.bin .Add (.bin .Add (.slice {1} (.lit .none) {3} (.lit .none)) (.list [.tup [.call 354 "union" [{0},{5}],("E_REST",2)]])) (.slice {1} (.bin .Add {2} (1)) (.lit .none) (.lit .none)))]
def qz:Fn:=⟨3,[],8,yM⟩
noncomputable def qK:E:=.tup [{5},{6}]
def u9:S:=#[.asg (.one 3) (.comp qK (.two 5 6) {1} .nil),.iff (.cmp .Lt (.call 279 "last_mark" [{3},.tup [("E_SPREAD",3)]]) (0)) #[.asg (.one 4) (.call 279 "last_mark" [{3},.tup [("E_REST",2),("E_OPT",1)]]),.asg (.one 3) (.call 293 "one_rest" [{0},.call 286 "needed_to_last" [{0},{3}],{4}]),.iff (.and [.cmp .Eq (.bi .len [{3}]) (1),.cmp .Eq (.item (.item {3} (0)) (1)) ("E_REST",2)]) #[.ret (.call 272 "array_type" [{0},.item (.item {3} (0)) (0),{2}])] .nil] .nil,.ret (.meth {0} "put" [.tup [("Y_TUPLE",12),.bi .tuple [{3}],{2}]])]
def lY:Fn:=⟨3,[.int 0],7,u9⟩
noncomputable def yh:S:=#[.iff (.cmp .Eq {1} ("NEVER",2)) #[.ret (.tup .nil)] .nil,.asg (.one 2) (.item (.attr {0} "rows") {1}),.iff (.cmp .Eq (.item {2} (0)) ("Y_UNION",6)) #[.ret (.item {2} (1))] .nil,.ret (.tup [{1}])]
def qC:Fn:=⟨2,[],3,yh⟩
noncomputable def rj:S:=#[.asg (.one 1) (.item {0} (0)),.iff (.or [.cmp .Eq {1} ("Y_STR",3),.cmp .Eq {1} ("Y_TPL",18)]) #[.ret ("STRING",6)] .nil,.iff (.cmp .Eq {1} ("Y_NUM",4)) #[.ret ("NUMBER",7)] .nil,.iff (.cmp .Eq {1} ("Y_ENUM",5)) #[.ret .dead] .nil,.ret (.neg (1))]
def jM:Fn:=⟨1,[],2,rj⟩
noncomputable def qm:S:=#[.asg (.one 2) (.item (.attr {0} "rows") {1}),.iff (.and [.cmp .In (.item {2} (0)) (.glob "MARKED_ROWS" (.tup [.int 2,.int 3,.int 4,.int 5,.int 8])),.cmp .Eq (.item {2} (.neg (1))) (1)]) #[.ret .dead] .nil,.ret (.neg (1))]
def jt:Fn:=⟨2,[],3,qm⟩
noncomputable def uB:S:=#[.iff (.and [.or [.cmp .In ("FALSE_T",8) {0},.cmp .In ("FRESH_F",14) {0}],.or [.cmp .In ("TRUE_T",9) {0},.cmp .In ("FRESH_T",15) {0}]]) #[.setItem {0} ("FALSE_T",8) (1),.setItem {0} ("TRUE_T",9) (1)] .nil]
def mF:Fn:=⟨1,[],1,uB⟩
noncomputable def pK:S:=#[.iff (.cmp .In (.call 328 "regular_twin" [{0},{2}]) {1}) #[.ret (.lit (.bool false))] .nil,.ret (.cmp .NotIn (.call 321 "whole_of_row" [.item (.attr {0} "rows") {2}]) {1})]
def jz:Fn:=⟨3,[],3,pK⟩
noncomputable def yS:S:=#[.iff (.cmp .In {1} {0}) #[.ret {1}] .nil]
def CZ:S:=#[.loop (.one 1) (.tup [("ANY",0),("ERR",13),("UNKNOWN",1)]) yS,.ret (.neg (1))]
def vP:Fn:=⟨1,[],2,CZ⟩
noncomputable def Bo:S:=#[.setItem {2} {4} (1)]
def AW:S:=#[.loop (.one 4) (.call 314 "parts_of" [{0},{3}]) Bo]
noncomputable def AJ:E:={7}
noncomputable def AF:E:=[.call 342 "stays_beside" [{0},{2},{7}]]
def EM:S:=#[.asg (.one 2) (.dict .nil),.loop (.one 3) {1} AW,.asg (.one 5) (.call 349 "top_of" [{2}]),.iff (.cmp .GtE {5} (0)) #[.ret {5}] .nil,.expr (.call 335 "join_bools" [{2}]),.asg (.one 6) (.comp AJ (.one 7) (.bi .sorted [{2}]) AF),.iff (.not {6}) #[.ret ("NEVER",2)] .nil,.iff (.cmp .Eq (.bi .len [{6}]) (1)) #[.ret (.item {6} (0))] .nil,.iff (.cmp .Gt (.bi .len [{6}]) ("MAX_UNION",400)) .dead .nil,.ret (.meth {0} "put" [.tup [("Y_UNION",6),.bi .tuple [{6}]]])]
def za:Fn:=⟨2,[],8,EM⟩
noncomputable def wX:S:=#[.ret (.call 354 "union" [{0},.tup [{1},("UNDEF",4)]])]
def oJ:Fn:=⟨2,[],2,wX⟩
noncomputable def uf:S:=#[.ret (.cmp .In (.item (.item (.attr {0} "rows") {1}) (0)) (.glob "LITERAL_ROWS" (.tup [.int 2,.int 3,.int 4,.int 5])))]
def m4:Fn:=⟨2,[],2,uf⟩
noncomputable def A0:S:=#[.ret (.or [.cmp .Eq {1} ("UNDEF",4),.cmp .Eq {1} ("NULLT",5),.call 368 "is_literal" [{0},{1}]])]
def sR:Fn:=⟨2,[],2,A0⟩
noncomputable def xM:S:=#[.asg (.one 2) (.item (.attr {0} "rows") {1}),.ret (.and [.cmp .In (.item {2} (0)) (.glob "MARKED_ROWS" (.tup [.int 2,.int 3,.int 4,.int 5,.int 8])),.cmp .Eq (.item {2} (.neg (1))) (1)])]
def xD:Fn:=⟨2,[],3,xM⟩
noncomputable def sd:S:=#[.iff (.call 382 "is_fresh" [{0},{1}]) .dead .nil,.ret {1}]
def rT:Fn:=⟨2,[],2,sd⟩
noncomputable def CG:S:=#[.asg (.one 2) (.item (.attr {0} "rows") {1}),.asg (.one 3) (.item {2} (0)),.iff (.cmp .Eq {3} ("Y_KEY",1)) #[.ret (.meth (.glob "KEY_FAMILIES" (.fro 206)) "get" [{1},("FAM_OTHER",0)])] .nil,.iff (.cmp .Eq {3} ("Y_BOOL",2)) #[.ret ("FAM_BOOL",3)] .nil,.iff (.cmp .In {3} (.glob "OBJECT_ROWS" (.tup [.int 8,.int 9,.int 11,.int 12,.int 13]))) #[.ret ("FAM_OBJ",7)] .nil,.iff (.cmp .Eq {3} ("Y_UNION",6)) .dead .nil,.iff (.cmp .Eq {3} ("Y_INTER",7)) .dead .nil,.asg (.one 4) (.call 321 "whole_of_row" [{2}]),.iff (.cmp .Lt {4} (0)) #[.ret ("FAM_OTHER",0)] .nil,.ret (.ite (.cmp .Eq {4} ("STRING",6)) ("FAM_STR",1) ("FAM_NUM",2))]
def jP:Fn:=⟨2,[],5,CG⟩
noncomputable def kq:S:=#[.ret (.or [.cmp .Eq {0} ("FAM_NULL",4),.cmp .Eq {0} ("FAM_UNDEF",5),.cmp .Eq {0} ("FAM_VOID",6)])]
def fC:Fn:=⟨1,[],1,kq⟩
noncomputable def qS:S:=#[.iff (.and [.cmp .Eq {2} ("FAM_UNDEF",5),.cmp .Eq {3} ("FAM_VOID",6)]) #[.ret ("MEET_LEFT",1)] .nil,.iff (.and [.cmp .Eq {2} ("FAM_VOID",6),.cmp .Eq {3} ("FAM_UNDEF",5)]) #[.ret ("MEET_RIGHT",2)] .nil,.ret ("MEET_NEVER",0)]
def jB:Fn:=⟨4,[],4,qS⟩
noncomputable def sH:S:=#[.iff (.cmp .NotEq {3} {4}) #[.ret ("MEET_NEVER",0)] .nil,.iff (.and [.call 375 "is_unit" [{0},{1}],.call 375 "is_unit" [{0},{2}]]) #[.ret ("MEET_NEVER",0)] .nil,.iff (.or [.cmp .Eq {1} ("STRING",6),.cmp .Eq {1} ("NUMBER",7)]) #[.ret ("MEET_RIGHT",2)] .nil,.iff (.or [.cmp .Eq {2} ("STRING",6),.cmp .Eq {2} ("NUMBER",7)]) #[.ret ("MEET_LEFT",1)] .nil,.ret ("MEET_BOTH",3)]
def kz:Fn:=⟨5,[],5,sH⟩
noncomputable def rK:S:=.seq (.iff (.cmp .Eq {1} ("EMPTY",11)) #[.ret ("MEET_RIGHT",2)] .nil) (.seq (.iff (.cmp .Eq {2} ("EMPTY",11)) #[.ret ("MEET_LEFT",1)] .nil) (.seq (.iff (.cmp .NotEq {3} {4}) #[.ret (.ite (.or [.cmp .Eq {1} ("OBJECTT",10),.cmp .Eq {2} ("OBJECTT",10)]) ("MEET_NEVER",0) ("MEET_BOTH",3))] .nil) .dead))
def jw:Fn:=⟨5,[],5,rK⟩
noncomputable def wq:S:=#[.iff (.or [.cmp .Eq {1} {2},.cmp .Eq (.call 328 "regular_twin" [{0},{2}]) {1}]) #[.ret ("MEET_LEFT",1)] .nil,.iff (.cmp .Eq (.call 328 "regular_twin" [{0},{1}]) {2}) #[.ret ("MEET_RIGHT",2)] .nil,.asg (.one 3) (.call 408 "family" [{0},{1}]),.asg (.one 4) (.call 408 "family" [{0},{2}]),.iff (.or [.cmp .Eq {3} ("FAM_OTHER",0),.cmp .Eq {4} ("FAM_OTHER",0)]) #[.ret ("MEET_BOTH",3)] .nil,.iff (.or [.call 415 "is_nullish_family" [{3}],.call 415 "is_nullish_family" [{4}]]) #[.ret (.call 472 "meet_nullish" [{1},{2},{3},{4}])] .nil,.iff (.or [.cmp .Eq {3} ("FAM_OBJ",7),.cmp .Eq {4} ("FAM_OBJ",7)]) #[.ret (.call 486 "meet_objects" [{0},{1},{2},{3},{4}])] .nil,.ret (.call 479 "meet_values" [{0},{1},{2},{3},{4}])]
def oA:Fn:=⟨3,[],5,wq⟩
noncomputable def yf:S:=#[.asg (.one 6) (.call 493 "meet_case" [{0},{5},{2}]),.iff (.cmp .Eq {6} ("MEET_NEVER",0)) #[.ret (.lit .none)] .nil,.iff (.cmp .Eq {6} ("MEET_LEFT",1)) #[.asg (.one 4) (.lit (.bool true))] .nil,.iff (.cmp .NotEq {6} ("MEET_RIGHT",2)) #[.expr (.meth {3} "append" [{5}])] .nil]
def Bz:S:=#[.asg (.one 3) (.list .nil),.asg (.one 4) (.lit (.bool false)),.loop (.one 5) {1} yf,.iff (.not {4}) #[.expr (.meth {3} "append" [{2}])] .nil,.ret {3}]
def wj:Fn:=⟨3,[],7,Bz⟩
noncomputable def mR:S:=#[.asg (.one 2) (.item (.attr {0} "rows") {1}),.iff (.cmp .Eq (.item {2} (0)) ("Y_REF",9)) .dead .nil,.iff (.cmp .Eq (.item {2} (0)) ("Y_INTER",7)) #[.ret (.item {2} (1))] .nil,.iff (.cmp .Eq (.item {2} (0)) ("Y_OBJ",8)) #[.ret (.tup [.call 389 "regular_one" [{0},{1}]])] .nil,.ret (.tup [{1}])]
def gV:Fn:=⟨2,[],4,mR⟩
noncomputable def q7:E:={5}
noncomputable def q8:S:=#[.asg (.one 3) (.call 500 "lay_on" [{0},{3},{4}]),.iff (.cmp .Is {3} (.lit .none)) #[.ret ("NEVER",2)] .nil]
noncomputable def pN:E:=.call 389 "regular_one" [{0},{6}]
def ur:S:=#[.asg (.one 3) (.comp q7 (.one 5) (.call 507 "members_of_meet" [{0},{1}]) .nil),.loop (.one 4) (.call 507 "members_of_meet" [{0},{2}]) q8,.iff (.cmp .Eq (.bi .len [{3}]) (1)) #[.ret (.item {3} (0))] .nil,.ret (.meth {0} "put" [.tup [("Y_INTER",7),.bi .tuple [.comp pN (.one 6) {3} .nil]]])]
def m7:Fn:=⟨3,[],7,ur⟩
noncomputable def vi:S:=#[.asg (.one 9) (.call 512 "meet_parts" [{0},{7},{8}]),.iff (.cmp .NotEq {9} ("NEVER",2)) #[.setItem {3} {9} (1)] .nil,.iff (.and [{6},.cmp .Gt (.bi .len [{3}]) ("MAX_DRAWN",200)]) .dead .nil]
def vt:S:=#[.loop (.one 8) {5} vi]
def y6:S:=#[.iff (.or [.cmp .Eq {1} {2},.cmp .Eq {2} ("UNKNOWN",1)]) #[.ret {1}] .nil,.iff (.cmp .Eq {1} ("UNKNOWN",1)) #[.ret {2}] .nil,.asg (.one 3) (.dict .nil),.asg2 4 5 (.call 314 "parts_of" [{0},{1}]) (.call 314 "parts_of" [{0},{2}]),.asg (.one 6) (.and [.cmp .Gt (.bi .len [{4}]) (1),.cmp .Gt (.bi .len [{5}]) (1)]),.loop (.one 7) {4} vt,.ret (.call 354 "union" [{0},.bi .sorted [{3}]])]
def qe:Fn:=⟨3,[],10,y6⟩
noncomputable def AY:S:=#[.iff (.cmp .In {2} {1}) #[.ret {2}] .nil]
noncomputable def AD:S:=#[.iff (.cmp .NotIn (.item {1} {4}) (.slice {1} (.lit .none) {4} (.lit .none))) #[.asg (.one 3) (.call 519 "meet_two" [{0},{3},.item {1} {4}])] .nil]
def Gx:S:=#[.loop (.one 2) (.tup [("NEVER",2),("ANY",0),("ERR",13)]) AY,.asg (.one 3) ("UNKNOWN",1),.loop (.one 4) (.bi .range [.bi .len [{1}]]) AD,.ret {3}]
def zo:Fn:=⟨2,[],5,Gx⟩
noncomputable def sL:S:=#[.setAttr {0} "given" (.dict .nil)]
def kU:Fn:=⟨1,[],1,sL⟩
noncomputable def ud:S:=#[.setAttr {0} "tab" (.attr {1} "tab"),.setAttr {0} "host" {1},.setAttr {0} "bound" {2},.setAttr {0} "diags" {3},.setAttr {0} "dids" (.dict .nil),.setAttr {0} "pids" (.dict .nil),.setAttr {0} "std" (.dict .nil),.setAttr {0} "guess" (.call 557 "Guess" .nil),.setAttr {0} "types" (.dict .nil),.setAttr {0} "rules" (.dict .nil),.setAttr {0} "shaper" (.call 620 "Shaper" .nil),.setAttr {0} "declarer" (.call 655 "Declarer" .nil),.setAttr {0} "checks" (.call 683 "Checks" .nil),.setAttr {0} "later" (.list .nil),.setAttr {0} "lax" (.list .nil),.setAttr {0} "told" (.dict .nil),.setAttr {0} "nodes" (.dict .nil),.setAttr {0} "bounded" (.dict .nil),.setAttr {0} "defaulted" (.dict .nil),.setAttr {0} "making" (.dict .nil),.setAttr {0} "known" (.list .nil),.setAttr {0} "circles" (.dict .nil),.setAttr {0} "order" (.list .nil),.setAttr {0} "tree" (.list .nil),.setAttr {0} "aliases" (.list .nil),.setAttr {0} "deep" (0),.setAttr {0} "owner" (.dict .nil),.setAttr {0} "held" (.dict .nil),.setAttr {0} "returns" (.dict .nil),.setAttr {0} "stage" (.dict .nil),.setAttr {0} "hits" (.list .nil),.setAttr {0} "rings" (.list .nil),.setAttr {0} "renewing" (0),.setAttr {0} "by_name" (.dict .nil),.setAttr {0} "by_did" (.dict .nil)]
def mj:Fn:=⟨4,[],4,ud⟩
noncomputable def oV:S:=#[.ret (.call 764 "type_at_node" [{0},{1}])]
def fo:Fn:=⟨2,[],2,oV⟩
noncomputable def IC:S:=#[.iff (.cmp .NotIn (.tup [{1},{2}]) (.attr {0} "told")) #[.setItem (.attr {0} "told") (.tup [{1},{2}]) (1),.expr (.meth (.attr {0} "diags") "put" [{1},{2},{3}])] .nil]
def Dc:Fn:=⟨4,[],4,IC⟩
noncomputable def sj:S:=#[.asg (.one 2) (.meth (.attr {0} "rules") "get" [.attr {1} "kind"]),.iff (.cmp .Is {2} (.lit .none)) .dead .nil,.augAttr {0} "deep" .Add (1),.tryF #[.iff (.cmp .Gt (.attr {0} "deep") ("MOST_LEVELS",60)) .dead .nil,.ret (.meth {2} "made" [{0},{1}])] #[.augAttr {0} "deep" .Sub (1)]]
def kR:Fn:=⟨2,[],3,sj⟩
noncomputable def pJ:S:=#[.iff (.cmp .In (.attr {1} "nid") (.attr {0} "types")) #[.ret (.item (.attr {0} "types") (.attr {1} "nid"))] .nil,.asg (.one 2) (.call 757 "made_or_err" [{0},{1}]),.iff (.cmp .Gt (.attr {1} "nid") (0)) #[.setItem (.attr {0} "types") (.attr {1} "nid") {2}] .nil,.ret {2}]
def gp:Fn:=⟨2,[],3,pJ⟩
noncomputable def fz:S:=#[.asg (.one 1) (.item (.attr {1} "kids") (0))]
noncomputable def fp:E:=.cmp .Eq (.attr {1} "kind") ("K_TPAREN",98)
def rZ:S:=#[.whl fp fz,.iff (.and [.cmp .Eq (.attr {1} "kind") ("K_TINFER",93),.cmp .Is (.item (.attr {1} "kids") (0)) (.lit .none),.cmp .GtE {2} (0)]) .dead .nil]
def kQ:Fn:=⟨3,[],4,rZ⟩
noncomputable def g7:S:=#[.ret (.meth (.glob "KEYWORDS" (.fro 793)) "get" [.attr {2} "a",("ERR",13)])]
def dq:Fn:=⟨3,[],3,g7⟩
noncomputable def qJ:S:=#[.iff (.cmp .Eq (.attr {1} "kind") ("K_NUM",1)) #[.ret (.call 264 "num_type" [{0},.attr {1} "a",(0)])] .nil,.iff (.cmp .Eq (.attr {1} "kind") ("K_STR",2)) #[.ret (.call 256 "str_type" [{0},.attr {1} "a",(0)])] .nil,.iff (.cmp .Eq (.attr {1} "kind") ("K_TRUE",4)) #[.ret ("TRUE_T",9)] .nil,.iff (.cmp .Eq (.attr {1} "kind") ("K_FALSE",5)) #[.ret ("FALSE_T",8)] .nil,.iff (.and [.cmp .Eq (.attr {1} "kind") ("K_UNARY",21),.cmp .Eq (.attr {1} "a") (.lit (.str "-")),.cmp .Eq (.attr (.item (.attr {1} "kids") (0)) "kind") ("K_NUM",1)]) #[.ret (.call 264 "num_type" [{0},.neg (.attr (.item (.attr {1} "kids") (0)) "a"),(0)])] .nil,.ret ("ERR",13)]
def jK:Fn:=⟨2,[],2,qJ⟩
noncomputable def kY:S:=#[.ret (.call 819 "literal_kind" [.attr {1} "tab",.item (.attr {2} "kids") (0)])]
def gc:Fn:=⟨3,[],3,kY⟩
noncomputable def gz:S:=#[.ret (.meth {1} "type_of" [.item (.attr {2} "kids") (0)])]
def dh:Fn:=⟨3,[],3,gz⟩
noncomputable def jO:S:=#[.setItem (.attr {0} "rules") ("K_TKEY",80) (.call 810 "DecltypesWordRule" .nil),.setItem (.attr {0} "rules") ("K_TLIT",82) (.call 836 "LiteralRule" .nil),.setItem (.attr {0} "rules") ("K_TPAREN",98) (.call 855 "DecltypesParenRule" .nil)]
def ff:Fn:=⟨1,[],1,jO⟩
noncomputable def gl:E:=.meth {1} "type_of" [{3}]
def n6:S:=#[.ret (.call 354 "union" [.attr {1} "tab",.comp gl (.one 3) (.attr {2} "kids") .nil])]
def ib:Fn:=⟨3,[],4,n6⟩
noncomputable def kW:E:=.meth {1} "type_of" [{3}]
def nM:S:=#[.ret (.call 526 "inter" [.attr {1} "tab",.comp kW (.one 3) (.attr {2} "kids") .nil])]
def iy:Fn:=⟨3,[],4,nM⟩
noncomputable def kf:S:=#[.setItem (.attr {0} "rules") ("K_TUNION",83) (.call 879 "UnionRule" .nil),.setItem (.attr {0} "rules") ("K_TINTER",84) (.call 896 "InterRule" .nil)]
def fE:Fn:=⟨1,[],1,kf⟩
noncomputable def gK:S:=#[.ret (.call 272 "array_type" [.attr {1} "tab",.meth {1} "type_of" [.item (.attr {2} "kids") (0)],(0)])]
def dj:Fn:=⟨3,[],3,gK⟩
noncomputable def nU:E:={4}
def qQ:S:=.seq (.asg (.one 2) (.meth (.attr {0} "host") "force" [.meth {0} "type_of" [.item (.attr {1} "kids") (0)]])) (.seq (.asg (.one 3) (.item (.attr (.attr {0} "tab") "rows") {2})) (.seq (.iff (.cmp .Eq (.item {3} (0)) ("Y_ARRAY",11)) #[.ret (.list [.tup [.item {3} (1),("E_REST",2)]])] .nil) (.seq (.iff (.cmp .Eq (.item {3} (0)) ("Y_TUPLE",12)) #[.ret (.comp nU (.one 4) (.item {3} (1)) .nil)] .nil) .dead)))
def jN:Fn:=⟨2,[],5,qQ⟩
noncomputable def vn:S:=#[.iff (.cmp .Eq (.item {2} (1)) {1}) #[.ret (.lit (.bool true))] .nil]
def xW:S:=#[.loop (.one 2) {0} vn,.ret (.lit (.bool false))]
def qA:Fn:=⟨2,[],3,xW⟩
noncomputable def wz:S:=#[.iff (.call 950 "has_mark" [{1},("E_SPREAD",3)]) .dead .nil,.ret (.call 299 "tuple_type" [.attr {0} "tab",{1},{2}])]
def oT:Fn:=⟨3,[],3,wz⟩
noncomputable def yc:S:=#[.iff (.call 56 "has" [{1},("F_REST",8192)]) #[.expr (.call 792 "infer_bound" [{0},.item (.attr {1} "kids") (0),.call 272 "array_type" [.attr {0} "tab",("UNKNOWN",1),(0)]]),.ret (.call 943 "spread_elems" [{0},{1}])] .nil,.asg (.one 2) (.ite (.call 56 "has" [{1},("F_OPT",4096)]) ("E_OPT",1) ("E_NEED",0)),.ret (.list [.tup [.meth {0} "type_of" [.item (.attr {1} "kids") (0)],{2}]])]
def rz:Fn:=⟨2,[],3,yc⟩
noncomputable def sE:S:=#[.iff (.and [{2},.call 56 "has" [{0},("F_REST",8192)],.call 950 "has_mark" [{1},("E_REST",2)]]) #[.ret (1265)] .nil,.iff (.and [{2},.call 56 "has" [{0},("F_OPT",4096)]]) #[.ret (1266)] .nil,.iff (.and [{3},.not (.call 56 "has" [{0},("F_OPT",4096)]),.not (.call 56 "has" [{0},("F_REST",8192)])]) #[.ret (1257)] .nil,.ret (0)]
def kF:Fn:=⟨4,[],4,sE⟩
noncomputable def qn:S:=#[.asg (.one 6) (.call 964 "elems_of" [{0},{5}]),.asg (.one 7) (.call 971 "order_fault" [{5},{6},.call 950 "has_mark" [{2},("E_REST",2)],{4}]),.iff (.and [.cmp .NotEq {7} (0),.not {3}]) #[.asg (.one 3) (.lit (.bool true)),.expr (.call 750 "tell" [{0},{7},.attr {5} "at",.tup .nil])] .nil,.asg (.one 4) (.or [{4},.call 56 "has" [{5},("F_OPT",4096)]]),.expr (.meth {2} "extend" [{6}])]
def uJ:S:=#[.asg (.one 2) (.list .nil),.asg (.one 3) (.lit (.bool false)),.asg (.one 4) (.lit (.bool false)),.loop (.one 5) (.attr {1} "kids") qn,.ret (.call 957 "put_tuple" [{0},{2},(0)])]
def mi:Fn:=⟨2,[],8,uJ⟩
noncomputable def nH:S:=#[.ret (.call 978 "tuple_kind" [{1},{2}])]
def im:Fn:=⟨3,[],3,nH⟩
noncomputable def mZ:E:=.call 1002 "readonly_kind" [{0},{3}]
def oZ:S:=#[.asg (.one 2) (.item (.attr (.attr {0} "tab") "rows") {1}),.iff (.cmp .Eq (.item {2} (0)) ("Y_ARRAY",11)) #[.ret (.call 272 "array_type" [.attr {0} "tab",.item {2} (1),(1)])] .nil,.iff (.cmp .Eq (.item {2} (0)) ("Y_TUPLE",12)) #[.ret (.call 957 "put_tuple" [{0},.item {2} (1),(1)])] .nil,.iff (.cmp .Eq (.item {2} (0)) ("Y_UNION",6)) #[.ret (.call 354 "union" [.attr {0} "tab",.comp mZ (.one 3) (.item {2} (1)) .nil])] .nil,.ret {1}]
def cJ:Fn:=⟨2,[],4,oZ⟩
noncomputable def kx:S:=#[.iff (.cmp .NotIn (.attr (.item (.attr {2} "kids") (0)) "kind") (.tup [("K_TARRAY",85),("K_TTUPLE",86)])) #[.expr (.call 750 "tell" [{1},(1354),.attr {2} "at",.tup .nil])] .nil,.ret (.call 1002 "readonly_kind" [{1},.meth {1} "type_of" [.item (.attr {2} "kids") (0)]])]
def fL:Fn:=⟨3,[],3,kx⟩
noncomputable def kt:S:=#[.setItem (.attr {0} "rules") ("K_TARRAY",85) (.call 922 "DecltypesArrayRule" .nil),.setItem (.attr {0} "rules") ("K_TTUPLE",86) (.call 995 "TupleRule" .nil),.setItem (.attr {0} "rules") ("K_TREADONLY",97) (.call 1019 "ReadonlyRule" .nil)]
def fF:Fn:=⟨1,[],1,kt⟩
noncomputable def vH:S:=#[.setAttr {0} "tab" {1},.setAttr {0} "deep" (0),.setAttr {0} "most_rounds" ("MOST_ROUNDS",200),.setAttr {0} "most_deep" ("MOST_SHAPES",40),.setAttr {0} "lib" (.lit .none)]
def oG:Fn:=⟨2,[],2,vH⟩
noncomputable def ve:S:=#[.ret {1}]
def mS:Fn:=⟨2,[],2,ve⟩
noncomputable def vQ:S:=#[.ret (.dict [(0),.lit (.str "undefined"),(1),.lit (.str "null"),(8),.lit (.str "string"),(9),.lit (.str "number"),(10),.lit (.str "boolean"),(11),.lit (.str "void"),(12),.lit (.str "object"),(13),.lit (.str "unknown"),(14),.lit (.str "never")])]
def oj:Fn:=⟨0,[],0,vQ⟩
noncomputable def yw:S:=#[.ret (.dict [.lit (.str "undefined"),(1),.lit (.str "null"),(2),.lit (.str "string"),(896),.lit (.str "number"),(112),.lit (.str "void"),(1025),.lit (.str "object"),(2048),.lit (.str "unknown"),(8191)])]
def qj:Fn:=⟨0,[],0,yw⟩
noncomputable def yn:S:=#[.asg (.one 2) (.item {0} (0)),.setItem {0} (0) (.bin .Add {2} (1)),.asg (.one 3) (.ite (.cmp .Lt {2} (.bi .len [.item {0} (1)])) (.item (.item {0} (1)) {2}) (.bin .Add (.bin .Mult {2} {2}) (5))),.ret (.bin .Mod {3} {1})]
def qc:Fn:=⟨2,[],4,yn⟩
noncomputable def vd:E:=.tup [(0),.call 1197 "_law_take" [{0},(15)]]
def ym:S:=#[.ret (.tup [(1),.comp vd (.one 1) (.bi .range [.bin .Add (1) (.call 1197 "_law_take" [{0},(2)])]) .nil])]
def pZ:Fn:=⟨1,[],2,ym⟩
noncomputable def vf:E:=.call 1207 "_law_term" [{0},.bin .Sub {1} (1)]
noncomputable def t8:E:=.call 1202 "_law_flat" [{0}]
def xX:S:=#[.asg (.one 2) (.call 1197 "_law_take" [{0},.ite (.cmp .Gt {1} (0)) (11) (2)]),.iff (.cmp .Lt {2} (2)) #[.ret (.tup [(0),.call 1197 "_law_take" [{0},(15)]])] .nil,.iff (.cmp .Lt {2} (4)) #[.ret (.tup [(1),.comp vf (.one 4) (.bi .range [.bin .Add (2) (.call 1197 "_law_take" [{0},(2)])]) .nil])] .nil,.iff (.cmp .Eq {2} (4)) #[.ret (.tup [(2),.comp t8 (.one 5) (.bi .range [.bin .Add (2) (.call 1197 "_law_take" [{0},(2)])]) .nil])] .nil,.iff (.cmp .Eq {2} (5)) #[.ret (.tup [(3),.call 1207 "_law_term" [{0},.bin .Sub {1} (1)]])] .nil,.iff (.cmp .Eq {2} (6)) #[.ret (.tup [(5),.tup [(3),.call 1207 "_law_term" [{0},.bin .Sub {1} (1)]]])] .nil,.iff (.cmp .Eq {2} (7)) #[.ret (.tup [(5),.call 1202 "_law_flat" [{0}]])] .nil,.asg (.one 3) (.tup [(4),.call 1214 "_law_kids" [{0},{1},.call 1197 "_law_take" [{0},(3)]]]),.ret (.ite (.cmp .Eq {2} (8)) (.tup [(5),{3}]) {3})]
def lK:Fn:=⟨2,[],6,xX⟩
noncomputable def uG:S:=#[.asg (.one 5) (.call 1197 "_law_take" [{0},(5)]),.iff (.cmp .Lt {5} (3)) #[.expr (.meth {3} "append" [.tup [.bin .FloorDiv {5} (2),.call 1207 "_law_term" [{0},.bin .Sub {1} (1)]]]),.cont] .nil,.iff (.and [.cmp .Eq {5} (4),.cmp .Gt {1} (0)]) #[.asg (.one 6) (.tup [(4),.call 1214 "_law_kids" [{0},.bin .Sub {1} (1),.call 1197 "_law_take" [{0},(3)]]])] #[.asg (.one 6) (.tup [(3),.call 1207 "_law_term" [{0},.bin .Sub {1} (1)]])],.expr (.meth {3} "append" [.tup [(2),.ite (.cmp .Eq (.call 1197 "_law_take" [{0},(3)]) (0)) (.tup [(5),{6}]) {6}]])]
def y7:S:=#[.asg (.one 3) (.list .nil),.loop (.one 4) (.bi .range [{2}]) uG,.ret {3}]
def qT:Fn:=⟨3,[],7,y7⟩
noncomputable def t9:S:=#[.setItem {2} {5} (1)]
def ue:S:=#[.augVar 1 .BitOr {3},.loop (.one 5) {4} t9]
def yW:S:=#[.asg (.one 1) (0),.asg (.one 2) (.dict .nil),.loop (.two 3 4) {0} ue,.ret (.tup [{1},.ite (.bin .BitAnd {1} (4096)) (.list .nil) (.bi .sorted [{2}])])]
def rc:Fn:=⟨1,[],6,yW⟩
noncomputable def uZ:E:=.bin .Add (.bin .Add (.bin .Add (.bin .Add (.bi .str [.item {3} (0)]) (.lit (.str "{"))) (.meth (.lit (.str ",")) "join" [.item {3} (1)])) (.lit (.str "}"))) (.item (.lit (.str "!?*")) {4})
def y5:S:=#[.asg (.one 2) (.comp uZ (.two 3 4) {0} .nil),.ret (.bin .Add (.bin .Add (.bin .Add (.ite {1} (.lit (.str "r")) (.lit (.str ""))) (.lit (.str "["))) (.meth (.lit (.str " ")) "join" [{2}])) (.lit (.str "]")))]
def pQ:Fn:=⟨2,[],5,y5⟩
noncomputable def se:S:=#[.expr (.meth {1} "extend" [.ite (.cmp .Eq {2} (2)) (.call 1231 "_law_elems" [{3}]) (.list [.tup [.call 1236 "_law_value" [{3}],{2}]])])]
noncomputable def sy:E:={13}
noncomputable def rW:E:=[.cmp .Eq (.item (.item {1} {13}) (1)) (0)]
noncomputable def sM:E:={14}
noncomputable def rX:E:=[.cmp .Eq (.item (.item {1} {14}) (1)) (2)]
noncomputable def si:E:={15}
noncomputable def sx:E:=[.cmp .Gt (.item (.item {1} {15}) (1)) (0)]
noncomputable def sC:S:=#[.asg (.two 10 11) (.item {1} {9}),.asg (.one 12) (.ite (.cmp .Eq {11} (1)) (.call 1221 "_law_join" [.list [{10},.tup [(1),.list .nil]]]) {10}),.iff (.and [.cmp .Gt (.bi .len [{5}]) (0),.cmp2 .LtE .LtE (.item {5} (0)) {9} (.item {6} (.neg (1)))]) #[.asg (.one 8) (.call 1221 "_law_join" [.list [{8},{12}]]),.iff (.cmp .Eq {9} (.item {6} (.neg (1)))) #[.expr (.meth {7} "append" [.tup [{8},(2)]])] .nil] #[.iff (.and [.cmp .Eq {11} (1),.cmp .Gt (.bi .len [{4}]) (0),.cmp .Lt {9} (.item {4} (.neg (1)))]) #[.expr (.meth {7} "append" [.tup [{12},(0)]])] #[.expr (.meth {7} "append" [.tup [{10},{11}]])]]]
def oE:S:=#[.iff (.cmp .Eq (.item {0} (0)) (5)) #[.ret (.call 1231 "_law_elems" [.item {0} (1)])] .nil,.iff (.cmp .Eq (.item {0} (0)) (3)) #[.ret (.list [.tup [.call 1236 "_law_value" [.item {0} (1)],(2)]])] .nil,.asg (.one 1) (.list .nil),.loop (.two 2 3) (.item {0} (1)) se,.asg (.one 4) (.comp sy (.one 13) (.bi .range [.bi .len [{1}]]) rW),.asg (.one 5) (.comp sM (.one 14) (.bi .range [.bi .len [{1}]]) rX),.asg (.one 6) (.comp si (.one 15) (.bi .range [.bi .len [{1}]]) sx),.asg (.one 7) (.list .nil),.asg (.one 8) (.tup [(0),.list .nil]),.loop (.one 9) (.bi .range [.bi .len [{1}]]) sC,.ret {7}]
def gT:Fn:=⟨1,[],16,oE⟩
noncomputable def kN:E:=.call 1236 "_law_value" [{3}]
noncomputable def sG:S:=#[.augVar 1 .BitAnd (.item (.call 1236 "_law_value" [{2}]) (0))]
def vU:S:=#[.iff (.cmp .Eq (.item {0} (0)) (0)) #[.ret (.tup [.item (.glob "_law_masks" (.tup [.int 1,.int 2,.int 4,.int 8,.int 16,.int 32,.int 128,.int 256,.int 896,.int 112,.int 12,.int 1025,.int 2048,.int 8191,.int 0])) (.item {0} (1)),.list .nil])] .nil,.iff (.cmp .Eq (.item {0} (0)) (1)) #[.ret (.call 1221 "_law_join" [.comp kN (.one 3) (.item {0} (1)) .nil])] .nil,.iff (.cmp .Eq (.item {0} (0)) (2)) #[.asg (.one 1) (8191),.loop (.one 2) (.item {0} (1)) sG,.ret (.tup [{1},.list .nil])] .nil,.iff (.and [.cmp .Eq (.item {0} (0)) (5),.cmp .Eq (.item (.item {0} (1)) (0)) (1)]) #[.ret (.call 1236 "_law_value" [.item {0} (1)])] .nil,.ret (.tup [(0),.list [.call 1226 "_law_text" [.call 1231 "_law_elems" [{0}],.cmp .Eq (.item {0} (0)) (5)]]])]
def dK:Fn:=⟨1,[],4,vU⟩
noncomputable def yT:S:=#[.iff (.cmp .Eq (.item {0} (0)) ("Y_KEY",1)) #[.ret (.meth (.call 1190 "_law_keys" .nil) "get" [.item {0} (1),(65536)])] .nil,.iff (.and [.cmp .Eq (.item {0} (0)) ("Y_BOOL",2),.cmp .Eq (.item {0} (2)) (0)]) #[.ret (.bin .LShift (4) (.item {0} (1)))] .nil,.iff (.and [.cmp .Eq (.item {0} (0)) ("Y_STR",3),.cmp .Eq (.item {0} (2)) (0)]) #[.ret (.meth (.dict [.lit (.str "a"),(128),.lit (.str ""),(256)]) "get" [.item {0} (1),(65536)])] .nil,.iff (.and [.cmp .Eq (.item {0} (0)) ("Y_NUM",4),.cmp .Eq (.item {0} (2)) (0)]) #[.ret (.meth (.dict [(0),(16),.neg (1),(32)]) "get" [.item {0} (1),(65536)])] .nil,.ret (65536)]
def gj:Fn:=⟨1,[],1,yT⟩
noncomputable def uK:E:=.tup [.call 1248 "_law_read" [{0},{7}],{8}]
noncomputable def ui:S:=#[.asg (.one 5) (.call 1248 "_law_read" [{0},{4}]),.asg (.one 6) (.or [.cmp .Gt (.bin .BitAnd (.bin .BitAnd (.item {3} (0)) (.item {5} (0))) (8190)) (0),.cmp .Eq {5} (.tup [(0),.list .nil]),.cmp .Eq (.item (.item (.attr {0} "rows") {4}) (0)) ("Y_UNION",6)]),.asg (.one 3) (.call 1221 "_law_join" [.list [{3},{5},.tup [.ite {6} (65536) (0),.list .nil]]])]
def yE:S:=#[.asg (.one 2) (.item (.attr {0} "rows") {1}),.iff (.cmp .Eq {2} (.tup [("Y_KEY",1),.lit (.str "never")])) #[.ret (.tup [(0),.list .nil])] .nil,.iff (.cmp .Eq (.item {2} (0)) ("Y_ARRAY",11)) #[.ret (.tup [(0),.list [.call 1226 "_law_text" [.list [.tup [.call 1248 "_law_read" [{0},.item {2} (1)],(2)]],.item {2} (2)]]])] .nil,.iff (.cmp .Eq (.item {2} (0)) ("Y_TUPLE",12)) #[.ret (.tup [(0),.list [.call 1226 "_law_text" [.comp uK (.two 7 8) (.item {2} (1)) .nil,.item {2} (2)]]])] .nil,.iff (.cmp .NotEq (.item {2} (0)) ("Y_UNION",6)) #[.ret (.tup [.call 1243 "_law_bits" [{2}],.list .nil])] .nil,.asg (.one 3) (.tup [(0),.list .nil]),.loop (.one 4) (.item {2} (1)) ui,.ret {3}]
def gq:Fn:=⟨2,[],9,yE⟩
noncomputable def xS:S:=#[.augItem {0} (.lit (.str "nid")) .Add (1),.asg (.one 5) (.call 49 "flagged" [{1},{2},{3},{4},.item {0} (.lit (.str "nid"))]),.setAttr {5} "nid" (.item {0} (.lit (.str "nid"))),.ret {5}]
def rg:Fn:=⟨5,[],6,xS⟩
noncomputable def yy:S:=#[.iff (.and [.cmp .Eq {1} (10),.cmp .Eq {2} (0)]) #[.ret (.call 1255 "_law_make" [{0},("K_TUNION",83),.lit (.str ""),.list [.call 1262 "_law_leaf" [{0},(3),(7)],.call 1262 "_law_leaf" [{0},(2),(7)]],(0)])] .nil,.iff (.cmp .In {1} (.call 1183 "_law_words" .nil)) #[.ret (.call 1255 "_law_make" [{0},("K_TKEY",80),.item (.call 1183 "_law_words" .nil) {1},.list .nil,(0)])] .nil,.iff (.cmp .Lt {1} (4)) #[.asg (.one 3) (.call 1255 "_law_make" [{0},.item (.list [("K_FALSE",5),("K_TRUE",4)]) (.bin .Sub {1} (2)),.lit (.str ""),.list .nil,(0)])] #[.iff (.cmp .Lt {1} (6)) #[.asg (.one 3) (.call 1255 "_law_make" [{0},("K_NUM",1),.bin .Sub {1} (4),.list .nil,(0)]),.iff (.or [.cmp .Eq {1} (5),.cmp .Eq {2} (0)]) #[.asg (.one 3) (.call 1255 "_law_make" [{0},("K_UNARY",21),.lit (.str "-"),.list [{3}],(0)])] .nil] #[.asg (.one 3) (.call 1255 "_law_make" [{0},("K_STR",2),.item (.list [.lit (.str "a"),.lit (.str "")]) (.bin .Sub {1} (6)),.list .nil,(0)])]],.ret (.call 1255 "_law_make" [{0},("K_TLIT",82),.lit (.str ""),.list [{3}],(0)])]
def lQ:Fn:=⟨3,[],4,yy⟩
noncomputable def mY:E:=.call 1298 "_law_write" [{0},{6},{4}]
def yb:S:=#[.asg (.one 5) (.comp mY (.one 6) {2} .nil),.iff (.cmp .Eq {3} (0)) #[.asg (.one 5) (.slice {5} (.lit .none) (.lit .none) (.neg (1)))] #[.iff (.cmp .Eq {3} (1)) #[.asg (.one 5) (.bin .Add (.slice {5} (1) (.lit .none) (.lit .none)) (.slice {5} (.lit .none) (1) (.lit .none)))] #[.iff (.cmp .Eq {3} (2)) #[.asg (.one 5) (.list [.item {5} (0),.call 1255 "_law_make" [{0},{1},.lit (.str ""),.bin .Add (.slice {5} (1) (.lit .none) (.lit .none)) (.slice {5} (.lit .none) (1) (.lit .none)),(0)]])] #[.iff (.cmp .Eq {3} (3)) #[.asg (.one 5) (.list [.call 1255 "_law_make" [{0},{1},.lit (.str ""),.bin .Add (.slice {5} (1) (.lit .none) (.lit .none)) (.slice {5} (.lit .none) (1) (.lit .none)),(0)],.call 1298 "_law_write" [{0},.item {2} (0),{4}]])] #[.iff (.cmp .Eq {3} (4)) #[.expr (.meth {5} "append" [.call 1262 "_law_leaf" [{0},.ite (.cmp .Eq {1} ("K_TUNION",83)) (14) (13),(7)]])] .nil]]]],.ret (.call 1255 "_law_make" [{0},{1},.lit (.str ""),{5},(0)])]
def qU:Fn:=⟨5,[],7,yb⟩
noncomputable def kM:E:={8}
def sr:S:=#[.asg (.two 4 5) (.item {0} {3}),.asg (.one 6) (.and [.cmp .Eq {4} (2),.cmp .In (2) (.comp kM (.two 7 8) (.call 1231 "_law_elems" [{5}]) .nil)]),.iff (.and [{1},{6}]) #[.ret (.tup [{3},(1265)])] .nil,.iff (.and [{1},.cmp .Eq {4} (1)]) #[.ret (.tup [{3},(1266)])] .nil,.iff (.and [{2},.cmp .Eq {4} (0)]) #[.ret (.tup [{3},(1257)])] .nil,.asg (.one 1) (.or [{1},{6}]),.asg (.one 2) (.or [{2},.cmp .Eq {4} (1)])]
def wH:S:=#[.asg (.one 1) (.lit (.bool false)),.asg (.one 2) (.lit (.bool false)),.loop (.one 3) (.bi .range [.bi .len [{0}]]) sr,.ret (.tup [.neg (1),(0)])]
def ow:Fn:=⟨1,[],9,wH⟩
noncomputable def yR:S:=#[.ret (.call 1255 "_law_make" [{0},("K_TELEM",87),.lit (.str ""),.list [.call 1298 "_law_write" [{0},.item {1} (1),{2}]],.item (.list [(0),("F_OPT",4096),("F_REST",8192)]) (.item {1} (0))])]
def qb:Fn:=⟨3,[],3,yR⟩
noncomputable def kI:S:=#[.augVar 7 .Add (1)]
noncomputable def kG:E:=.and [.cmp .Lt {7} (.bi .len [{1}]),.cmp .Lt (.item (.item {1} {6}) (0)) (2),.cmp .Lt (.item (.item {1} {7}) (0)) (2),.cmp .Gt (.call 1197 "_law_take" [.item {0} (.lit (.str "d")),(3)]) (0)]
noncomputable def kS:E:=.call 1279 "_law_elem" [{0},{9},{2}]
def g6:S:=#[.asg (.one 7) (.bin .Add {6} (1)),.iff (.and [.cmp .Eq {2} (1),.cmp .Lt {3} (0),.cmp .Eq (.call 1197 "_law_take" [.item {0} (.lit (.str "d")),(3)]) (0)]) #[.whl kG kI,.asg (.one 8) (.call 1255 "_law_make" [{0},("K_TTUPLE",86),.lit (.str ""),.comp kS (.one 9) (.slice {1} {6} {7} (.lit .none)) .nil,(0)]),.expr (.meth {5} "append" [.call 1255 "_law_make" [{0},("K_TELEM",87),.lit (.str ""),.list [{8}],("F_REST",8192)]])] #[.expr (.meth {5} "append" [.call 1279 "_law_elem" [{0},.item {1} {6},{2}]])],.asg (.one 6) {7}]
noncomputable def kA:E:=.cmp .Lt {6} (.bi .len [{1}])
def wv:S:=#[.asg (.two 3 4) (.call 1272 "_law_fault" [{1}]),.asg (.one 5) (.list .nil),.asg (.one 6) (0),.whl kA g6,.iff (.cmp .GtE {3} (0)) #[.expr (.meth (.item {0} (.lit (.str "told"))) "append" [.tup [{4},.attr (.item {5} {3}) "at"]])] .nil,.ret (.call 1255 "_law_make" [{0},("K_TTUPLE",86),.lit (.str ""),{5},(0)])]
def oR:Fn:=⟨3,[],10,wv⟩
noncomputable def vL:S:=#[.asg (.one 3) (.ite (.cmp .Eq {2} (1)) (.call 1197 "_law_take" [.item {0} (.lit (.str "d")),(8)]) (7)),.iff (.cmp .Eq (.item {1} (0)) (0)) #[.ret (.call 1262 "_law_leaf" [{0},.item {1} (1),.bin .FloorDiv {3} (4)])] .nil,.iff (.cmp .Lt (.item {1} (0)) (3)) #[.ret (.call 1267 "_law_many" [{0},.ite (.cmp .Eq (.item {1} (0)) (1)) ("K_TUNION",83) ("K_TINTER",84),.item {1} (1),{3},{2}])] .nil,.iff (.cmp .Eq (.item {1} (0)) (4)) #[.ret (.call 1284 "_law_tuple" [{0},.item {1} (1),{2}])] .nil,.iff (.cmp .Eq (.item {1} (0)) (3)) #[.asg (.one 4) (.call 1255 "_law_make" [{0},("K_TARRAY",85),.lit (.str ""),.list [.call 1298 "_law_write" [{0},.item {1} (1),{2}]],(0)]),.iff (.cmp .Lt {3} (3)) #[.asg (.one 4) (.call 1255 "_law_make" [{0},("K_TTUPLE",86),.lit (.str ""),.list [.call 1255 "_law_make" [{0},("K_TELEM",87),.lit (.str ""),.list [{4}],("F_REST",8192)]],(0)])] .nil,.ret {4}] .nil,.iff (.cmp .NotEq (.item (.item {1} (1)) (0)) (1)) #[.ret (.call 1255 "_law_make" [{0},("K_TREADONLY",97),.lit (.str ""),.list [.call 1291 "_law_plain" [{0},.item {1} (1),{2}]],(0)])] .nil,.asg (.one 4) (.call 1255 "_law_make" [{0},("K_TREADONLY",97),.lit (.str ""),.list [.call 1298 "_law_write" [{0},.item {1} (1),{2}]],(0)]),.expr (.meth (.item {0} (.lit (.str "told"))) "append" [.tup [(1354),.attr {4} "at"]]),.ret {4}]
def cX:Fn:=⟨3,[],5,vL⟩
noncomputable def wZ:S:=#[.asg (.one 3) (.call 1291 "_law_plain" [{0},{1},{2}]),.asg (.one 4) (.ite (.cmp .Eq {2} (1)) (.call 1197 "_law_take" [.item {0} (.lit (.str "d")),(5)]) (4)),.iff (.and [.cmp .Eq {4} (0),.cmp .Lt (.item {1} (0)) (4)]) #[.ret (.call 1255 "_law_make" [{0},("K_TPAREN",98),.lit (.str ""),.list [{3}],(0)])] .nil,.iff (.cmp .Eq {4} (1)) #[.asg (.one 5) (.call 1255 "_law_make" [{0},("K_TREF",81),.lit (.str "N"),.list .nil,(0)]),.setItem (.attr (.item {0} (.lit (.str "n"))) "types") (.attr {5} "nid") (.meth (.item {0} (.lit (.str "n"))) "type_of" [{3}]),.ret {5}] .nil,.ret {3}]
def oq:Fn:=⟨3,[],6,wZ⟩
noncomputable def E9:E:={9}
noncomputable def pD:S:=#[.asg (.one 7) (.item {5} {6}),.iff (.cmp .Eq {6} (0)) #[.asg (.one 8) (.call 978 "tuple_kind" [{3},.call 1291 "_law_plain" [{4},{7},(0)]])] #[.asg (.one 8) (.meth {3} "type_of" [.call 1298 "_law_write" [{4},{7},(0)]])],.iff (.or [.cmp .NotEq (.meth {3} "type_of" [.call 1298 "_law_write" [{4},{7},(1)]]) {8},.cmp .NotEq (.call 1248 "_law_read" [.attr {3} "tab",{8}]) (.call 1236 "_law_value" [{7}])]) #[.ret (.lit (.bool false))] .nil]
noncomputable def Gc:E:=.tup [.attr {10} "number",.attr {10} "at"]
def Hk:S:=#[.asg (.one 1) (.comp E9 (.one 9) (.slice {0} (.lit .none) (40) (.lit .none)) .nil),.asg (.one 2) (.list [(0),{1}]),.asg (.one 3) (.call 739 "Namer" [.call 1171 "Thin" [.call 237 "TypeTable" .nil],.lit .none,.call 175 "Diags" .nil]),.expr (.call 864 "install_kind_words" [{3}]),.expr (.call 905 "install_kind_sets" [{3}]),.expr (.call 1028 "install_kind_rows" [{3}]),.asg (.one 4) (.dict [.lit (.str "d"),{2},.lit (.str "n"),{3},.lit (.str "nid"),(0),.lit (.str "told"),.list .nil]),.asg (.one 5) (.list [.tup [(4),.call 1214 "_law_kids" [{2},(2),.bin .Add (1) (.call 1197 "_law_take" [{2},(4)])]]]),.iff (.cmp .Eq (.call 1197 "_law_take" [{2},(2)]) (1)) #[.expr (.meth {5} "append" [.call 1207 "_law_term" [{2},(2)]])] .nil,.loop (.one 6) (.bi .range [.bi .len [{5}]]) pD,.ret (.cmp .Eq (.bi .sorted [.comp Gc (.one 10) (.attr (.attr {3} "diags") "rows") .nil]) (.bi .sorted [.item {4} (.lit (.str "told"))]))]
def Hv:Fn:=⟨1,[],11,Hk⟩
end
end
mutual
def Nh:List (Addr×Fn):=[(35,oF),(49,tE),(56,HN),(131,oD),(160,mU),(167,oQ),(220,hZ),(234,fy),(248,Bc),(256,qF),(264,qH),(272,m0),(279,oK),(286,ip),(293,qz),(299,lY),(314,qC),(321,jM),(328,jt),(335,mF),(342,jz),(349,vP),(354,za),(361,oJ),(368,m4),(375,sR),(382,xD),(389,rT),(408,jP),(415,fC),(472,jB),(479,kz),(486,jw),(493,oA),(500,wj),(507,gV),(512,m7),(519,qe),(526,zo),(596,kU),(701,mj),(708,fo),(750,Dc),(757,kR),(764,gp),(792,kQ),(807,dq),(819,jK),(833,gc),(852,dh),(864,ff),(876,ib),(893,iy),(905,fE),(919,dj),(943,jN),(950,qA),(957,oT),(964,rz),(971,kF),(978,mi),(992,im),(1002,cJ),(1016,fL),(1028,fF),(1042,oG),(1049,mS),(1183,oj),(1190,qj),(1197,qc),(1202,pZ),(1207,lK),(1214,qT),(1221,rc),(1226,pQ),(1231,gT),(1236,dK),(1243,gj),(1248,gq),(1255,rg),(1262,lQ),(1267,qU),(1272,ow),(1279,qb),(1284,oR),(1291,cX),(1298,oq),(1303,Hv)]
noncomputable def FZ:List (Addr×Option Addr):=[(38,some 35),(141,some 131),(175,some 160),(237,some 220),(557,none),(578,none),(620,some 596),(655,none),(683,none),(739,some 701),(810,none),(836,none),(855,none),(879,none),(896,none),(922,none),(995,none),(1019,none),(1171,some 1042)]
noncomputable def B6:List ((Addr×Str)×Addr):=[((175,"put"),167),((237,"put"),234),((739,"type_of"),708),((810,"made"),807),((836,"made"),833),((855,"made"),852),((879,"made"),876),((896,"made"),893),((922,"made"),919),((995,"made"),992),((1019,"made"),1016),((1171,"force"),1049)]
noncomputable def attrL:List (Addr×Y9):=[(38,["kind","a","kids","flags","at","nid"]),(141,["number","at","args","file"]),(175,["rows","file"]),(237,["rows","index","decls","bounds","defaults","names","origins","renamed","shaping","putting"]),(620,["given"]),(739,[Str.ofString "tab",Str.ofString "host",Str.ofString "bound",Str.ofString "diags",Str.ofString "dids",Str.ofString "pids",Str.ofString "std",Str.ofString "guess",Str.ofString "types",Str.ofString "rules",Str.ofString "shaper",Str.ofString "declarer",Str.ofString "checks",Str.ofString "later",Str.ofString "lax",Str.ofString "told",Str.ofString "nodes",Str.ofString "bounded",Str.ofString "defaulted",Str.ofString "making",Str.ofString "known",Str.ofString "circles",Str.ofString "order",Str.ofString "tree",Str.ofString "aliases",Str.ofString "deep",Str.ofString "owner",Str.ofString "held",Str.ofString "returns",Str.ofString "stage",Str.ofString "hits",Str.ofString "rings",Str.ofString "renewing",Str.ofString "by_name",Str.ofString "by_did"]),(1171,["tab","deep","most_rounds","most_deep","lib"])]
noncomputable def Co:Y7:=([("ANY",V.int 0),("EMPTY",V.int 11),("ERR",V.int 13),("E_NEED",V.int 0),("E_OPT",V.int 1),("E_REST",V.int 2),("E_SPREAD",V.int 3),("FALSE_T",V.int 8),("FAM_BOOL",V.int 3),("FAM_NULL",V.int 4),("FAM_NUM",V.int 2),("FAM_OBJ",V.int 7),("FAM_OTHER",V.int 0),("FAM_STR",V.int 1),("FAM_UNDEF",V.int 5),("FAM_VOID",V.int 6),("FIRST_ROWS",V.tup [(.tup [.int 1,(.str "any")]),(.tup [.int 1,(.str "unknown")]),(.tup [.int 1,(.str "never")]),(.tup [.int 1,(.str "void")]),(.tup [.int 1,(.str "undefined")]),(.tup [.int 1,(.str "null")]),(.tup [.int 1,(.str "string")]),(.tup [.int 1,(.str "number")]),(.tup [.int 2,.int 0,.int 0]),(.tup [.int 2,.int 1,.int 0]),(.tup [.int 1,(.str "object")]),(.tup [.int 8,(.tup []),(.tup []),(.tup []),(.tup []),(.tup []),.int 0]),(.tup [.int 6,(.tup [.int 8,.int 9])]),(.tup [.int 1,(.str "error")]),(.tup [.int 2,.int 0,.int 1]),(.tup [.int 2,.int 1,.int 1])]),("FRESH_F",V.int 14),("FRESH_T",V.int 15),("F_OPT",V.int 4096),("F_REST",V.int 8192),("KEYWORDS",V.fro 793),("KEY_FAMILIES",V.fro 206),("K_FALSE",V.int 5),("K_NUM",V.int 1),("K_STR",V.int 2),("K_TARRAY",V.int 85),("K_TELEM",V.int 87),("K_TINFER",V.int 93),("K_TINTER",V.int 84),("K_TKEY",V.int 80),("K_TLIT",V.int 82),("K_TPAREN",V.int 98),("K_TREADONLY",V.int 97),("K_TREF",V.int 81),("K_TRUE",V.int 4),("K_TTUPLE",V.int 86),("K_TUNION",V.int 83),("K_UNARY",V.int 21),("LITERAL_ROWS",V.tup [.int 2,.int 3,.int 4,.int 5]),("MARKED_ROWS",V.tup [.int 2,.int 3,.int 4,.int 5,.int 8]),("MAX_DRAWN",V.int 200),("MAX_UNION",V.int 400),("MEET_BOTH",V.int 3),("MEET_LEFT",V.int 1),("MEET_NEVER",V.int 0),("MEET_RIGHT",V.int 2),("MOST_LEVELS",V.int 60),("MOST_ROUNDS",V.int 200),("MOST_SHAPES",V.int 40),("NEVER",V.int 2),("NULLT",V.int 5),("NUMBER",V.int 7),("OBJECTT",V.int 10),("OBJECT_ROWS",V.tup [.int 8,.int 9,.int 11,.int 12,.int 13]),("STRING",V.int 6),("TRUE_T",V.int 9),("UNDEF",V.int 4),("UNKNOWN",V.int 1),("Y_ARRAY",V.int 11),("Y_BOOL",V.int 2),("Y_ENUM",V.int 5),("Y_INTER",V.int 7),("Y_KEY",V.int 1),("Y_NUM",V.int 4),("Y_OBJ",V.int 8),("Y_REF",V.int 9),("Y_STR",V.int 3),("Y_TPL",V.int 18),("Y_TUPLE",V.int 12),("Y_UNION",V.int 6),("_law_masks",V.tup [.int 1,.int 2,.int 4,.int 8,.int 16,.int 32,.int 128,.int 256,.int 896,.int 112,.int 12,.int 1025,.int 2048,.int 8191,.int 0])]:List (String×V)).map λx=>(Str.ofString x.1,x.2)
noncomputable def C2:List (Str×Addr):=([("Checks",683),("Declarer",655),("DecltypesArrayRule",922),("DecltypesParenRule",855),("DecltypesWordRule",810),("Diag",141),("Diags",175),("Guess",557),("InterRule",896),("LiteralRule",836),("Namer",739),("Node",38),("ReadonlyRule",1019),("Shaper",620),("Thin",1171),("TupleRule",995),("TypeTable",237),("UnionRule",879),("_law_bits",1243),("_law_elem",1279),("_law_elems",1231),("_law_fault",1272),("_law_flat",1202),("_law_join",1221),("_law_keys",1190),("_law_kids",1214),("_law_leaf",1262),("_law_make",1255),("_law_many",1267),("_law_plain",1291),("_law_read",1248),("_law_take",1197),("_law_term",1207),("_law_text",1226),("_law_tuple",1284),("_law_value",1236),("_law_words",1183),("_law_write",1298),("add_undef",361),("array_type",272),("elems_of",964),("family",408),("flagged",49),("has",56),("has_mark",950),("infer_bound",792),("install_kind_rows",1028),("install_kind_sets",905),("install_kind_words",864),("inter",526),("is_fresh",382),("is_literal",368),("is_nullish_family",415),("is_unit",375),("join_bools",335),("last_mark",279),("lay_on",500),("literal_kind",819),("made_or_err",757),("meet_case",493),("meet_nullish",472),("meet_objects",486),("meet_parts",512),("meet_two",519),("meet_values",479),("members_of_meet",507),("needed_to_last",286),("num_type",264),("one_rest",293),("order_fault",971),("parts_of",314),("put_tuple",957),("readonly_kind",1002),("regular_one",389),("regular_twin",328),("spread_elems",943),("stays_beside",342),("str_type",256),("tell",750),("top_of",349),("tuple_kind",978),("tuple_type",299),("type_at_node",764),("union",354),("whole_of_row",321)]:List (String×Addr)).map λx=>(Str.ofString x.1,x.2)
noncomputable def E7:List (Addr×X7):=[(206,[(.int 3,.int 6),(.int 4,.int 5),(.int 5,.int 4),(.int 6,.int 1),(.int 7,.int 2),(.int 10,.int 7)]),(793,[(.str "any",.int 0),(.str "unknown",.int 1),(.str "never",.int 2),(.str "void",.int 3),(.str "undefined",.int 4),(.str "null",.int 5),(.str "string",.int 6),(.str "number",.int 7),(.str "boolean",.int 12),(.str "object",.int 10)])]
def aa(l:Addr)(ns:Z9):nc where
 fn a:=Nh.lookup a
 meth c n:=B6.lookup (c,n)
 cls a:=FZ.lookup a
 attr c n:=match attrL.lookup c with
  |some xs=>xs.contains n
  |none=>false
 fro a:=E7.lookup a
 seq a:=if a=l then some (ns.map V.int) else none
set_option genInjectivity true in
inductive Row
 |key (s:Str)|bool (v f:Nat)|obj|str (s:Str)|num (i:Int)|uni (l:W9)|arr (e ro:Nat)|tup (l:V9)(ro:Nat)
noncomputable abbrev nV(n:Nat):V:=.int n
noncomputable def pV(p:Nat×Nat):V:=.tup [.int p.1,.int p.2]
def Row.toV:Row->V
 |.key s=>.tup [.int 1,.str s]
 |.bool v f=>.tup [.int 2,.int v,.int f]
 |.obj=>.tup [.int 8,.tup [],.tup [],.tup [],.tup [],.tup [],.int 0]
 |.str s=>.tup [.int 3,.str s,.int 0]
 |.num i=>.tup [.int 4,.int i,.int 0]
 |.uni l=>.tup [.int 6,.tup (l.map nV)]
 |.arr e ro=>.tup [.int 11,.int e,.int ro]
 |.tup l ro=>.tup [.int 12,.tup (l.map pV),.int ro]
theorem iH(h:nV a=nV b):a=b:=Int.ofNat.inj (V.int.inj h)
theorem Al{t d:Type}{f:t->d}(i:∀a b,f a=f b->a=b):∀{l r:List t},l.map f=r.map f->l=r
 |[],[],_=>rfl
 |[],_::_,h=>nomatch h
 |_::_,[],h=>nomatch h
 |a::l,b::r,h=>by exact rR (i _ _ (QB h).1) (rR (Al i (QB h).2) rfl)
theorem Kv(h:pV a=pV b):a=b:=US (iH (QB (V.tup.inj h)).1) (iH (QB (QB (V.tup.inj h)).2).1)
noncomputable def Row.ofV:V->Option Row
 |.tup (.int k::r)=>match k,r with
  |1,[.str s]=>some (.key s)
  |2,[.int v,.int f]=>some (.bool v.toNat f.toNat)
  |3,[.str s,_]=>some (.str s)
  |4,[.int i,_]=>some (.num i)
  |6,[.tup l]=>some (.uni (l.map λv=>match v with|.int i=>i.toNat|_=>0))
  |11,[.int v,.int f]=>some (.arr v.toNat f.toNat)
  |12,[.tup l,.int ro]=>some (.tup (l.map λv=>match v with|.tup [.int a,.int b]=>(a.toNat,b.toNat)|_=>(0,0)) ro.toNat)
  |_,_=>none
 |_=>none
theorem Row.of_to(r:Row):r=.obj\/Row.ofV r.toV=some r:=by
 induction r with
 |obj=>exact .inl rfl
 |uni l=>exact .inr (PR (λl=>some (Row.uni l)) ((QA ..).trans (U7 l)))
 |tup l ro=>exact .inr (PR (λl=>some (Row.tup l ro)) ((QA ..).trans (U7 l)))
 |_=>exact .inr rfl
theorem Row.toV_inj{a b:Row}(h:a.toV=b.toV):a=b:=by
 rcases a.of_to with rfl|w<;>rcases b.of_to with rfl|f
 ·rfl
 ·replace f:=(Qe h)▸f;cases f
 ·replace w:=h▸w;cases w
 replace w:=h▸w;replace w:=f▸w;exact(Qh w).symm
noncomputable instance:DecidableEq Row:=λa b=>decidable_of_iff (a.toV=b.toV) ⟨Row.toV_inj,PR _⟩
structure bM where
 at_:Nat
 nid:Nat
 deep:Nat
 rows:List Row
 types:V9
 dr:List (Addr×Addr×Nat×Nat)
 wt:V9
@[reducible] noncomputable def bM.wr(g:bM)(R:List Row):bM:={g with rows:=R}
noncomputable def bM.sz(g:bM):Nat:=g.rows.length+g.types.length+g.dr.length+g.nid+g.at_
structure cR where
 ns:Z9
 d:Addr
 nums:Addr
 rows:Addr
 index:Addr
 tab:Addr
 tdx:Addr
 tabF:Y7
 types:Addr
 told:Addr
 drows:Addr
 n:Addr
 ndx:Addr
 nF:Nat->Y7
 diags:Addr
 didx:Addr
 diF:Y7
 host:Addr
 hdx:Addr
 hoF:Y7
 rules:Addr
 w:Addr
 wt:Addr
 rl:List (Nat×Addr×Addr×Addr)
 ru:Nat->Addr
 rd:Nat->Addr
 fr:Y8
def je(R:List Row):X7:=R.zipIdx.map λp=>(p.1.toV,nV p.2)
def jQ(l:V9):X7:=l.map λp=>(nV p.1,nV p.2)
def sF(l:List (Addr×Addr×Nat×Nat)):X7:=l.map λp=>(pV p.2.2,.int 1)
def wL(c:cR)(nid:Nat):X7:=[(.str "d",.ref c.d),(.str "n",.ref c.n),(.str "nid",nV nid),(.str "told",.ref c.wt)]
def xd(e at_:Nat):Y7:=[("number",nV e),("at",nV at_),("args",.tup []),("file",.str "")]
def Lw(p:Addr×Addr×Nat×Nat):Addr×O:=(p.1,.inst 141 p.2.1 (xd p.2.2.1 p.2.2.2))
def cells(c:cR)(g:bM):Y8:=
 (c.rows,.list (g.rows.map Row.toV))::(c.index,.dict (je g.rows))::(c.types,.dict (jQ g.types))::(c.told,.dict (sF g.dr))::(c.drows,.list (g.dr.map λp=>V.ref p.1))::
  (c.n,.inst 739 c.ndx (c.nF g.deep))::(c.w,.dict (wL c g.nid))::(c.wt,.list (g.wt.map pV))::(c.d,.list [nV g.at_,.ref c.nums])::
  (c.nums,.list (c.ns.map V.int))::(c.tab,.inst 237 c.tdx c.tabF)::(c.diags,.inst 175 c.didx c.diF)::(c.host,.inst 1171 c.hdx c.hoF)::(c.rules,.dict (c.rl.map λp=>(nV p.1,V.ref p.2.1)))::
 ((c.fr++c.rl.map (λp=>(p.2.1,.inst p.2.2.2 p.2.2.1 [])))++g.dr.map Lw)
structure Holds(L:Y8)(σ:Hp):Prop where
 nd:(L.map (·.1)).Nodup
 at_:∀p∈L,σ p.1=some p.2
end
namespace Holds
variable{L L':Y8}{σ:Hp}{a:Addr}{o o':O}
theorem get(h:Holds L σ)(m:(a,o)∈L):σ a=some o:=h.at_ _ m
theorem notin(h:Holds L σ)(e:σ a=none):a∉L.map (·.1):=λm=>by refine am (P1.mp m) λp v i=>?_;subst i;exact nomatch (h.at_ p v).symm.trans e
theorem frame(h:Holds L σ)(e:σ a=none):Holds L (upd σ a o):=
 ⟨h.nd,λp v=>(PV λq=>h.notin e (P1.mpr ⟨p,v,q⟩)).trans (h.at_ p v)⟩
theorem new(h:Holds L σ)(e:σ a=none):Holds ((a,o)::L) (upd σ a o):=
 ⟨QK.mpr ⟨h.notin e,h.nd⟩,λp v=>(P0.mp v).elim (λq=>q▸PW rfl) λv=>(h.frame e).at_ p v⟩
theorem head(h:Holds ((a,o)::L) σ):Holds ((a,o')::L) (upd σ a o'):=by refine⟨h.nd,λp v=>(P0.mp v).elim (λq=>q▸PW rfl) λv=>?_⟩;exact(PV λq=>(QK.mp h.nd).1 (P1.mpr ⟨p,v,q⟩)).trans (h.at_ p (.tail _ v))
theorem perm(h:Holds L σ)(p:L.Perm L'):Holds L' σ:=⟨(p.map (·.1)).nodup_iff.mp h.nd,λx i=>h.at_ x (p.mem_iff.mpr i)⟩
theorem sub(h:Holds L σ)(p:L'.Sublist L):Holds L' σ:=⟨(p.map _).nodup h.nd,λx i=>h.at_ x (p.subset i)⟩
theorem mid(h:Holds (A++(B++(a,o)::C)) σ):Holds (A++(B++(a,o')::C)) (upd σ a o'):=by
 have b:∀o,(A++(B++(a,o)::C)).Perm ((a,o)::(A++(B++C))):=λo=>by rw[<-Qo,<-Qo];exact TH
 exact((h.perm (b o)).head).perm (b o').symm
theorem ne2(h:Holds (A++(p::(B++q::C))) σ):p.1≠q.1:=λe=>by exact(QK.mp ((h.sub (S4 _ _)).nd)).1 (P1.mpr (aK q (by simp) e.symm))
end Holds
structure H(c:cR)(g:bM)(b t:Nat)(X:Y8)(σ:Hp):Prop where
 hs:Holds (X++cells c g) σ
 bnd:g.sz+b<=900000
 bw:g.wt.length+t<=63
section
variable{c:cR}{g:bM}{b t:Nat}{X Y:Y8}{σ:Hp}{a:Addr}{o o':O}
namespace H
mutual
theorem loc(h:H c g b t X σ)(m:(a,o)∈X):σ a=some o:=h.hs.get (PZ _ m)
theorem cell(h:H c g b t X σ)(m:(a,o)∈cells c g):σ a=some o:=h.hs.get (PK _ m)
theorem new(h:H c g b t X σ)(e:σ a=none):H c g b t ((a,o)::X) (upd σ a o):=⟨h.hs.new e,h.bnd,h.bw⟩
theorem frame(h:H c g b t X σ)(e:σ a=none):H c g b t X (upd σ a o):=⟨h.hs.frame e,h.bnd,h.bw⟩
theorem head(h:H c g b t ((a,o)::X) σ):H c g b t ((a,o')::X) (upd σ a o'):=⟨Holds.head h.hs,h.bnd,h.bw⟩
theorem sub(h:H c g b t X σ)(p:Y.Sublist X):H c g b t Y σ:=⟨h.hs.sub (p.append (Ts _)),h.bnd,h.bw⟩
theorem tail(h:H c g b t (p::X) σ):H c g b t X σ:=h.sub (Tt ..)
theorem drop(h:H c g b t (Y++X) σ):H c g b t X σ:=h.sub (S4 ..)
theorem perm(h:H c g b t X σ)(p:X.Perm Y):H c g b t Y σ:=⟨h.hs.perm (p.append_right _),h.bnd,h.bw⟩
theorem mid(h:H c g b t (Y++(a,o)::X) σ):H c g b t ((a,o')::(Y++X)) (upd σ a o'):=(h.perm TH).head
theorem dec(h:H c g b t X σ)(e:b'<=b):H c g b' t X σ:=⟨h.hs,ID (P8 e _) h.bnd,h.bw⟩
theorem inst(h:H c g b t X σ)(n:a≠dx)(e:σ a=none)(d:σ dx=none):H c g b t ((a,.inst C dx [])::X) (upd (upd σ dx (.slot a)) a (.inst C dx [])):=
 (h.frame d).new ((PV n).trans e)
theorem lt(h:H c g b t X σ):g.sz<1000000:=PJ (ID (PM ..) h.bnd) dD
theorem rows_lt(h:H c g b t X σ):g.rows.length<1000000:=PJ (by unfold bM.sz;exact dA) h.lt
theorem c_rows(h:H c g b t X σ):σ c.rows=some (.list (g.rows.map Row.toV)):=h.cell (.head _)
theorem c_index(h:H c g b t X σ):σ c.index=some (.dict (je g.rows)):=h.cell (.tail _ (.head _))
theorem c_types(h:H c g b t X σ):σ c.types=some (.dict (jQ g.types)):=h.cell (.tail _ (.tail _ (.head _)))
theorem c_told(h:H c g b t X σ):σ c.told=some (.dict (sF g.dr)):=h.cell (.tail _ (.tail _ (.tail _ (.head _))))
theorem c_drows(h:H c g b t X σ):σ c.drows=some (.list (g.dr.map λp=>V.ref p.1)):=h.cell (.tail _ (.tail _ (.tail _ (.tail _ (.head _)))))
theorem c_n(h:H c g b t X σ):σ c.n=some (.inst 739 c.ndx (c.nF g.deep)):=h.cell (.tail _ (.tail _ (.tail _ (.tail _ (.tail _ (.head _))))))
theorem c_w(h:H c g b t X σ):σ c.w=some (.dict (wL c g.nid)):=h.cell (.tail _ (.tail _ (.tail _ (.tail _ (.tail _ (.tail _ (.head _)))))))
theorem c_wt(h:H c g b t X σ):σ c.wt=some (.list (g.wt.map pV)):=h.cell (.tail _ (.tail _ (.tail _ (.tail _ (.tail _ (.tail _ (.tail _ (.head _))))))))
theorem c_d(h:H c g b t X σ):σ c.d=some (.list [nV g.at_,.ref c.nums]):=h.cell (.tail _ (.tail _ (.tail _ (.tail _ (.tail _ (.tail _ (.tail _ (.tail _ (.head _)))))))))
theorem c_nums(h:H c g b t X σ):σ c.nums=some (.list (c.ns.map V.int)):=h.cell (.tail _ (.tail _ (.tail _ (.tail _ (.tail _ (.tail _ (.tail _ (.tail _ (.tail _ (.head _))))))))))
theorem c_tab(h:H c g b t X σ):σ c.tab=some (.inst 237 c.tdx c.tabF):=h.cell (.tail _ (.tail _ (.tail _ (.tail _ (.tail _ (.tail _ (.tail _ (.tail _ (.tail _ (.tail _ (.head _)))))))))))
theorem c_diags(h:H c g b t X σ):σ c.diags=some (.inst 175 c.didx c.diF):=h.cell (.tail _ (.tail _ (.tail _ (.tail _ (.tail _ (.tail _ (.tail _ (.tail _ (.tail _ (.tail _ (.tail _ (.head _))))))))))))
theorem c_host(h:H c g b t X σ):σ c.host=some (.inst 1171 c.hdx c.hoF):=h.cell (.tail _ (.tail _ (.tail _ (.tail _ (.tail _ (.tail _ (.tail _ (.tail _ (.tail _ (.tail _ (.tail _ (.tail _ (.head _)))))))))))))
theorem c_rules(h:H c g b t X σ):σ c.rules=some (.dict (c.rl.map λp=>(nV p.1,V.ref p.2.1))):=h.cell (.tail _ (.tail _ (.tail _ (.tail _ (.tail _ (.tail _ (.tail _ (.tail _ (.tail _ (.tail _ (.tail _ (.tail _ (.tail _ (.head _))))))))))))))
theorem c_more(h:H c g b t X σ)(m:(a,o)∈c.rl.map (λp=>(p.2.1,O.inst p.2.2.2 p.2.2.1 []))++g.dr.map Lw):σ a=some o:=h.cell (PK [_,_,_,_,_,_,_,_,_,_,_,_,_,_] ((P3.mp m).elim (λz=>PZ _ (PK _ z)) λz=>PK _ z))
theorem c_rule(h:H c g b t X σ)(m:(k,r,dx,C)∈c.rl):σ r=some (.inst C dx []):=h.c_more (PZ _ (P1.mpr (aK _ m rfl)))
theorem c_dr(h:H c g b t X σ)(m:p∈g.dr):σ p.1=some (.inst 141 p.2.1 (xd p.2.2.1 p.2.2.2)):=h.c_more (PK _ (P1.mpr (aK _ m rfl)))
theorem s_row(h:H c g (b+1) t X σ)(r:Row):H c (g.wr (g.rows++[r])) b t X (upd (upd σ c.rows (.list ((g.rows++[r]).map Row.toV))) c.index (.dict (je (g.rows++[r])))):=by have:=h.bnd;exact⟨Holds.mid (A:=X) (B:=[(c.rows,.list ((g.rows++[r]).map Row.toV))]) (o':=.dict (je (g.rows++[r]))) (Holds.mid (A:=X) (B:=[]) (o':=.list ((g.rows++[r]).map Row.toV)) h.hs),by unfold bM.sz at this⊢;simp only[PQ,RI,SK];exact lq this,h.bw⟩
theorem s_type(h:H c g (b+1) t X σ)(p:Nat×Nat):H c {g with types:=g.types++[p]} b t X (upd σ c.types (.dict (jQ (g.types++[p])))):=by have:=h.bnd;exact⟨Holds.mid (A:=X) (B:=[_,_]) (o':=.dict (jQ (g.types++[p]))) h.hs,by unfold bM.sz at this⊢;simp only[PQ,RI,SK];exact lq this,h.bw⟩
theorem s_deep(h:H c g b t X σ)(k:Nat):H c {g with deep:=k} b t X (upd σ c.n (.inst 739 c.ndx (c.nF k))):=
 ⟨Holds.mid (A:=X) (B:=[_,_,_,_,_]) (o':=.inst 739 c.ndx (c.nF k)) h.hs,h.bnd,h.bw⟩
theorem s_nid(h:H c g (b+1) t X σ):H c {g with nid:=g.nid+1} b t X (upd σ c.w (.dict (wL c (g.nid+1)))):=by have:=h.bnd;exact⟨Holds.mid (A:=X) (B:=[_,_,_,_,_,_]) (o':=.dict (wL c (g.nid+1))) h.hs,by unfold bM.sz at this⊢;exact lq this,h.bw⟩
theorem s_wt(h:H c g b (t+1) X σ)(p:Nat×Nat):H c {g with wt:=g.wt++[p]} b t X (upd σ c.wt (.list ((g.wt++[p]).map pV))):=by have:=h.bw;exact⟨Holds.mid (A:=X) (B:=[_,_,_,_,_,_,_]) (o':=.list ((g.wt++[p]).map pV)) h.hs,h.bnd,by simp only[PQ,RI,SK];exact lq this⟩
theorem s_at(h:H c g (b+1) t X σ):H c {g with at_:=g.at_+1} b t X (upd σ c.d (.list [nV (g.at_+1),.ref c.nums])):=by have:=h.bnd;exact⟨Holds.mid (A:=X) (B:=[_,_,_,_,_,_,_,_]) (o':=.list [nV (g.at_+1),.ref c.nums]) h.hs,by unfold bM.sz at this⊢;exact lq this,h.bw⟩
end
end H
end
section
variable{T:nc}{C:cj}{σ:Hp}{Q:KV}{K:KS}{ρ:Env}
mutual
theorem ah(i:T.fn f=some F)(r:vs.length=F.np)(h:fS T (ad T d) F.body (HG vs F.nslots) σ (fJ Q)):ad T (d+1) f vs σ Q:=
 .fn i (PI r) (ID (PI r.symm) (PM ..)) (by simp only[r,Sy,R9,Qm];exact h)
theorem IE(i:T.fn f=some F)(J:F.dfl=[w])(r:vs.length+1=F.np)(h:fS T (ad T d) F.body (HG (vs++[w]) F.nslots) σ (fJ Q)):ad T (d+1) f vs σ Q:=
 .fn i (sB r (Qt _)) (by refine rR J (sB r ?_);exact PD _) (by simp only[J,<-r,show([w]:Z7).length=1 from rfl,Sn];exact h)
theorem aW(h:σ x=some (.inst c dx fs))(i:aX n fs=some u)(w:T.attr c n=true)(q:Q u σ):kE T n Q (.ref x) σ:=by unfold kE;exact(No x c dx fs u rfl h w i q)
theorem qf(h:u7 σ v k u)(q:Q u σ):dS v Q k σ:=by unfold dS;exact(aK u h q)
theorem bx(h:Eu l i=some u)(q:Q u σ):dS (.tup l) Q (.int i) σ:=qf (.tup h) q
theorem Az{t:Type}{l:List t}{i:Nat}(h:i<1000000):Eu l (i:Int)=l[i]? :=by unfold Eu;rw[PV (λo=>o.elim (λo=>TF.mpr (SE.mp o) h) λo=>VC (Int.lt_trans o dD) (Su.mpr (Rb i))),PV (Su.mpr (Rb i)),Tu]
theorem cm{a:Addr}{l:Z7}{i:Nat}(e:σ a=some (.list l))(hi:i<1000000)(h:l[i]?=some u)(q:Q u σ):dS (.ref a) Q (.int i) σ:=qf (.list e ((Az hi).trans h)) q
theorem Nx{l:Z7}{i:Nat}(hi:i<1000000)(h:l[i]?=some u)(q:Q u σ):dS (.tup l) Q (.int i) σ:=qf (.tup ((Az hi).trans h)) q
theorem rM(e:σ a=some (.dict es))(f:aI k es=true)(h:aJ k es=some u)(q:Q u σ):dS (.ref a) Q k σ:=qf (.dict e f h) q
theorem cw(h:qa σ op x y t)(q:Q (.bool t) σ):eE op x Q y σ:=by unfold eE;exact(aK t h q)
theorem D5(q:Q (.bool (decide (a=b))) σ):eE .Eq (.int a) Q (.int b) σ:=cw (.eq .int .int rfl:qa σ .Eq (.int a) (.int b) _) (sB (show PyData.eqv (.int a) (.int b)=decide (a=b) from(by rfl)) q)
theorem ag{a b:Nat}(q:Q (.bool (decide (a=b))) σ):eE .Eq (.int a) Q (.int b) σ:=
 D5 ((QJ.mpr Int.ofNat_inj:decide ((a:Int)=b)=decide (a=b))▸q)
theorem CH(o:PyData.strOk a=true):SeqAt.shaped (.str a)=true:=by simp only[SeqAt.shaped,PyData.canLay0,PyData.depth,o];rfl
theorem Nj(o:PyData.strOk a=true)(o':PyData.strOk b=true)(q:Q (.bool (decide (a=b))) σ):eE .Eq (.str a) Q (.str b) σ:=by have h:qa σ .Eq (.str a) (.str b) _:=.eq .str .str (by refine rR (CH o) (rR (CH o') ?_);rfl);exact cw h (sB (show PyData.eqv (.str a) (.str b)=decide (a=b) from(by rfl)) q)
theorem oe{a b:Nat}(q:Q (.bool (decide (a≠b))) σ):eE .NotEq (.int a) Q (.int b) σ:=by refine cw (.ne .int .int rfl:qa σ .NotEq (.int a) (.int b) _) ((show(!PyData.eqv (.int a) (.int b))=decide (a≠b) from ?_)▸q);exact(PR (!·) (QJ.mpr Int.ofNat_inj:decide ((a:Int)=b)=decide (a=b))).trans Vl.symm
theorem ez{a b:Nat}(q:Q (.bool (decide (a<b))) σ):eE .Lt (.int a) Q (.int b) σ:=
 cw .lt ((QJ.mpr UD:decide ((a:Int)<b)=decide (a<b))▸q)
theorem oY(h:In σ x y b)(q:Q (.bool b) σ):eE .In x Q y σ:=cw (.inn h) q
theorem DY(h:In σ x y b)(q:Q (.bool (!b)) σ):eE .NotIn x Q y σ:=cw (.notIn h) q
theorem cD{A B:Prop}(G:b=true->A)(d:b=false->B):qh A B σ (.bool b):=by unfold qh;exact(oW b .bool G d)
theorem az{A B:Prop}{p:Prop}[Decidable p](G:p->A)(d: ¬p->B):qh A B σ (.bool (decide p)):=cD (λh=>G (P9 h)) λh=>d (Rp h)
theorem aq{A B:Prop}(h:A):qh A B σ (.bool true):=cD (λa=>h) λh=>VC h.symm PC
theorem af{A B:Prop}(h:B):qh A B σ (.bool false):=cD (λh=>VC h PC) λa=>h
theorem D4(q:Q (.bool (!b)) σ):y8 Q (.bool b) σ:=by unfold y8;exact(aK b .bool q)
theorem KM(h:σ a=some (.list l))(r:l.length<=lim)(q:Q (.bool l.isEmpty) σ):y8 Q (.ref a) σ:=by unfold y8;exact(aK _ (.list h r) (rR (Bool.not_not _) q))
theorem eh(h:σ b=some (.inst c dx fs))(e:aX n fs=none)(M:T.meth c n=some f)(q:es ρ σ (B9 C f (.ref b) Q)):rF T C n es ρ Q (.ref b) σ:=by unfold rF;exact .inl (No b c dx fs f rfl h M e q)
theorem bk{B:Hp->KV->Z7->Prop}(h:xr T σ x n B)(q:es ρ σ (n7 B Q)):rF T C n es ρ Q x σ:=by unfold rF;exact .inr (aK B h q)
theorem kJ{B:Hp->KV->Z7->Prop}(h:B σ Q vs):n7 B Q vs σ:=by unfold n7;exact h
theorem kX(h:zq σ Q b vs):FI b Q vs σ:=by unfold FI;exact h
theorem da(h:wy σ Q op x y):tL op x Q y σ:=by unfold tL;exact h
theorem kr(q:Q (.int (-i)) σ):C5 Q (.int i) σ:=by unfold C5;exact(aK i rfl q)
theorem wExpr(h:D9 v=false)(q:K .next ρ σ):wV ρ K v σ:=by unfold wV;exact⟨h,q⟩
theorem fK(h:σ x=some (.inst c dx fs))(r:(bQ n v fs).length<=1000)(w:T.attr c n=true)(q:K .next ρ (upd σ x (.inst c dx (bQ n v fs)))):bU T (.ref x) n v ρ K σ:=by unfold bU;exact(N4 x c dx fs rfl h w r q)
theorem jT(h:σ a=some (.dict es))(c:aI k es=true)(r:es.length<=lim)(q:K .next ρ (upd σ a (.dict (gJ k v es)))):cL (.ref a) k v ρ K σ:=by unfold cL;exact .dict h c r q
theorem B4(h:wy σ (HE i ρ K) op (.int a) (.int b)):zh i op (.int a) ρ K (.int b) σ:=by unfold zh;exact .mk h
theorem gO{t:Type}{f:t->V}{xs:List t}{b:Hn}(it:cC σ v (xs.map f))(I:List t->Env->Hp->Prop)(u:I [] ρ σ)(step:∀s x r,xs=s++x::r->∀(R:Env->Hp->Prop),(∀ρ σ,I (s++[x]) ρ σ->R ρ σ)->∀ρ σ,I s ρ σ->cC σ v (xs.map f)/\nK p (f x) ρ λc=>b c σ (tW R K))(U:∀ρ σ,I xs ρ σ->cC σ v (xs.map f)/\K .next ρ σ):ii p b ρ K v σ:=by
 unfold ii
 refine(aK _ it ?_)
 have d:∀(r s:List t)(ρ:Env)(σ:Hp),xs=s++r->I s ρ σ->zK p b (λσ=>cC σ v (xs.map f)) K (r.map f) ρ σ:=λr=>by
  induction r with
  |nil=>exactλs ρ σ e i=>U ρ σ (e.trans (Qm s)▸i)
  |cons x r ih=>exactλs ρ σ e i=>step s x r e _ (λρ σ i=>ih _ ρ σ (e.trans (R8 s x r)) i) ρ σ i
 exact d xs [] _ _ rfl u
theorem oM{t:Type}{f:t->V}{xs:List t}{p:pa}{v:V}(it:cC σ v (xs.map f))(u:xs.length<=lim)(I:List t->Z7->Hp->Prop)(w:I [] [] σ)(step:∀s x r,xs=s++x::r->∀(R:Z7->Hp->Prop)acc,(∀acc σ,I (s++[x]) acc σ->R acc σ)->∀σ,I s acc σ->cC σ v (xs.map f)/\wU elt p cs ρ (f x) σ (MF R acc))(U:∀acc σ,I xs acc σ->cC σ v (xs.map f)/\alloc (.list acc) σ Q):iA elt p cs ρ Q v σ:=by
 unfold iA
 refine(oW _ it (rR (PL f) u) ?_)
 have c:∀(r s:List t)(acc:Z7)(σ:Hp),xs=s++r->I s acc σ->xv (wU elt p cs ρ) (λσ=>cC σ v (xs.map f)) (BH Q) (r.map f) acc σ:=λr=>by
  induction r with
  |nil=>exactλs acc σ e i=>U acc σ (e.trans (Qm s)▸i)
  |cons x r ih=>exactλs acc σ e i=>step s x r e _ acc (λacc σ i=>ih _ acc σ (e.trans (R8 s x r)) i) σ i
 exact c xs [] [] _ rfl w
theorem zE{t:Type}{f:t->V}{xs:List t}{p:pa}{v:V}(F:t->V6)(it:cC σ v (xs.map f))(w:xs.length<=lim)(step:∀x∈xs,∀(R:KO),R (F x) σ->nK p (f x) ρ λc=>cs c σ (Cm elt c R))(U:alloc (.list (xs.filterMap F)) σ Q):iA elt p cs ρ Q v σ:=
 oM it w (λs acc u=>u=σ/\acc=s.filterMap F) ⟨rfl,rfl⟩
  (λs x r e R acc N u g=>dQ g λA G=>by
   subst A;refine⟨it,step x (rR e (PK _ (.head _))) _ ?_⟩;have h:=N (acc++[x].filterMap F) u ⟨rfl,by exact rR G (rR List.filterMap_append rfl)⟩;replace h:=(Rt)▸h;cases i:F x<;>replace h:=(i)▸h
   ·exact sB (Qm acc) h
   exact h)
  λacc u q=>by refine dQ (q) λA G=>?_;rw[A];exact⟨it,G▸U⟩
theorem wG{t:Type}{f:t->V}{xs:List t}{p:pa}(F:t->V)(it:cC σ v (xs.map f))(r:xs.length<=lim)(step:∀x∈xs,∀(R:KO),R (some (F x)) σ->nK p (f x) ρ λc=>elt c σ (Mj R))(U:alloc (.list (xs.map F)) σ Q):iA elt p (Bv T C .nil) ρ Q v σ:=
 zE (λx=>some (F x)) it r step (List.filterMap_eq_map (f:=F)▸U)
end
end
mutual
structure NF(c:cR)(fs:Y7)(k:Nat):Prop where
 tab:aX "tab" fs=some (.ref c.tab)
 host:aX "host" fs=some (.ref c.host)
 diags:aX "diags" fs=some (.ref c.diags)
 types:aX "types" fs=some (.ref c.types)
 rules:aX "rules" fs=some (.ref c.rules)
 told:aX "told" fs=some (.ref c.told)
 deep:aX "deep" fs=some (nV k)
 type_of:aX "type_of" fs=none
 len:fs.length<=100
structure ai(c:cR):Prop where
 t_rows:aX "rows" c.tabF=some (.ref c.rows)
 t_index:aX "index" c.tabF=some (.ref c.index)
 t_put:aX "put" c.tabF=none
 di_rows:aX "rows" c.diF=some (.ref c.drows)
 di_file:aX "file" c.diF=some (.str "")
 di_put:aX "put" c.diF=none
 ho_force:aX "force" c.hoF=none
 len:c.ns.length<=63
 nf:∀k,NF c (c.nF k) k
 np:∀k j,bQ "deep" (nV j) (c.nF k)=c.nF j
 nd:(c.rl.map (·.1)).Nodup
 r80:(80,c.ru 80,c.rd 80,810)∈c.rl
 r82:(82,c.ru 82,c.rd 82,836)∈c.rl
 r98:(98,c.ru 98,c.rd 98,855)∈c.rl
 r83:(83,c.ru 83,c.rd 83,879)∈c.rl
 r84:(84,c.ru 84,c.rd 84,896)∈c.rl
 r85:(85,c.ru 85,c.rd 85,922)∈c.rl
 r86:(86,c.ru 86,c.rd 86,995)∈c.rl
 r97:(97,c.ru 97,c.rd 97,1019)∈c.rl
noncomputable def bZ:List Row:=[.key "any",.key "unknown",.key "never",.key "void",.key "undefined",.key "null",.key "string",.key "number",.bool 0 0,.bool 1 0,.key "object",.obj,.uni [8,9],.key "error",.bool 0 1,.bool 1 1]
def o0(t:Nat):Prop:=t≠0/\t≠13/\t≠14/\t≠15/\t≠11
def ei(R:List Row)(t:Nat):Prop:=t<R.length/\o0 t
def cf(R:List Row)(p:Nat):=∀l,R[p]?≠some (.uni l)
noncomputable def bn:Row->Nat|.str _=>6|.num _=>7|_=>0
abbrev bC:=Nat->Prop
def rH(R:List Row)(S:bC)(p:Nat):=∀r,R[p]?=some r->bn r≠0-> ¬S (bn r)
def xZ(R:List Row)(t:Nat):Row->Prop
 |.key _=>t<16
 |.bool _ _=>t<16
 |.obj=>t<16
 |.str s=>s="a" \/s=""
 |.num i=>i=0\/i= -1
 |.uni l=>l.Pairwise (· < ·)/\2<=l.length/\∀p∈l,p<t/\o0 p/\p≠1/\p≠2/\cf R p/\rH R (· ∈l) p
 |.arr e ro=>e<t/\o0 e/\ro<=1
 |.tup l ro=>(∀p∈l,p.1<t/\o0 p.1/\p.2<=2)/\ro<=1/\(∀e,l≠[(e,2)])/\l.length<64
structure WF(R:List Row):Prop where
 first:bZ<+:R
 nd:R.Nodup
 fit:∀(t:Nat)(r:Row),R[t]?=some r->xZ R t r
theorem gZ{R m:List Row}(h:R<+:m)(l:t<R.length):m[t]?=R[t]? :=by obtain⟨S,rfl⟩:=h;exact List.getElem?_append_left l
theorem jW{R:List Row}{r:Row}(e:R[t]?=some r):t<R.length:=(Qi.mp e).1
theorem d5{R m:List Row}(h:R<+:m){t:Nat}(e:R[t]?=some r):m[t]?=some r:=(gZ h (jW e)).trans e
theorem ei.ext(h:R<+:R')(o:ei R t):ei R' t:=⟨P5 o.1 h.length_le,o.2⟩
theorem cf.ext(h:R<+:R')(l:p<R.length)(n:cf R p):cf R' p:=λk e=>n k ((gZ h l).symm.trans e)
theorem xZ.ext(h:R<+:R')(l:t<=R.length):∀{r:Row},xZ R t r->xZ R' t r
 |.key _,f=>f
 |.bool _ _,f=>f
 |.obj,f=>f
 |.str _,f=>f
 |.num _,f=>f
 |.arr _ _,f=>f
 |.tup _ _,f=>f
 |.uni _,⟨a,b,f⟩=>⟨a,b,λp v=>N6 (f p v) λa b c d e s=>let l:=P5 a l;⟨a,b,c,d,e.ext h l,λr z=>s r ((gZ h l).symm.trans z)⟩⟩
def dR(R:List Row)(r:Row):List Row:=if r∈R then R else R++[r]
def vz(R:List Row)(r:Row):Nat:=R.idxOf r
end
section
variable{R:List Row}{r:Row}
theorem cx:R<+:dR R r:=by unfold dR;split;exact Ry _;exact Vo _ _
theorem ze(h:r∉R):vz R r=R.length:=List.idxOf_eq_length h
theorem dz:(dR R r)[vz R r]?=some r:=by
 unfold dR;split
 ·exact(Qi.mpr ⟨SQ ‹_›,Ua _⟩)
 exact rR (ze ‹_›) TU
theorem WF.put(w:WF R)(f:xZ R R.length r):WF (dR R r):=by
 unfold dR;split
 ·exact w
 rename_i i;have l:R<+:R++[r]:=Vo _ _;refine⟨w.first.trans l,Q8.mpr ⟨w.nd,QK.mpr ⟨PH,.nil⟩,λa y b g e=>i (sB (PG.mp g) (sB e y))⟩,λt x e=>?_⟩;by_cases h:t<R.length
 ·exact(w.fit t x ((gZ l h).symm.trans e)).ext l (P2 h)
 have ht:t=R.length:=Qz (QL (Nat.lt_of_lt_of_eq (jW e) PQ)) (QU h);subst ht;refine sB (Qh (TU.symm.trans e)) ?_;exact f.ext l (PD _)
noncomputable def J9:Row->Bool|.key _=>false|.bool _ _=>false|.obj=>false|_=>true
theorem WF.get(w:WF R){t:Nat}{x:Row}(e:bZ[t]?=some x):R[t]?=some x:=d5 w.first e
theorem WF.len(w:WF R):16<=R.length:=w.first.length_le
theorem WF.uniq(w:WF R){s t:Nat}(h:R[s]?=some r)(h':R[t]?=some r):s=t:=
 (List.getElem_inj w.nd (h₀:=jW h) (h₁:=jW h')).mp (((Qi.mp h).2).trans (Qi.mp h').2.symm)
theorem lp(w:WF R)(f:xZ R R.length r)(m:J9 r=true):ei (dR R r) (vz R r):=
 ⟨jW dz,by
  have z:=w.put f;have k:∀t x,bZ[t]?=some x->J9 x=false->vz R r≠t:=λt x e n h=>by cases(Qh ((z.get e).symm.trans (sB h dz)));exact nomatch m.symm.trans n
  exact⟨k 0 _ rfl rfl,k 13 _ rfl rfl,k 14 _ rfl rfl,k 15 _ rfl rfl,k 11 _ rfl rfl⟩⟩
end
noncomputable def ae(R:List Row)(t:Nat):W9:=if t=2 then[] else match R[t]? with
 |some (.uni l)=>l
 |_=>[t]
theorem fX(h:R<+:R')(l:t<R.length):ae R' t=ae R t:=by unfold ae;exact rR (gZ h l) rfl
section
variable{R:List Row}{t p:Nat}{l:W9}
theorem cq:ae R 2=[]:=PW rfl
theorem nO(w:WF R)(e:R[t]?=some (.uni l)):ae R t=l:=by
 unfold ae;have n:t≠2:=λh=>by subst h;cases(w.get (t:=2) rfl).symm.trans e
 exact rR (PV n) (rR e rfl)
theorem bf(d:t≠2)(e:cf R t):ae R t=[t]:=by
 unfold ae;refine rR (PV d) ?_;split
 ·exact VC ‹_› (e _)
 rfl
theorem bG(w:WF R)(t:Nat):t=2\/(∃l,R[t]?=some (.uni l)/\ae R t=l)\/(t≠2/\cf R t/\ae R t=[t]):=by
 by_cases h:t=2
 ·exact .inl h
 by_cases u:∃l,R[t]?=some (.uni l)
 ·obtain⟨l,e⟩:=u;exact .inr (.inl (aK l e (nO w e)))
 have n:cf R t:=λl e=>u ⟨l,e⟩;exact .inr (.inr ⟨h,n,bf h n⟩)
theorem WF.parts(w:WF R)(o:ei R t)(h:p∈ae R t):ei R p/\p≠2/\cf R p:=by
 rcases bG w t with rfl|⟨l,e,f⟩|⟨a,b,e⟩
 ·exact nomatch cq▸h
 ·have⟨a,b,_,c,d,_⟩:=(w.fit t _ e).2.2 p (f▸h);exact⟨⟨Q0 a o.1,b⟩,c,d⟩
 exact(Qe (PG.mp (e▸h)))▸⟨o,a,b⟩
theorem WF.sorted(w:WF R)(t:Nat):(ae R t).Pairwise (· < ·):=by
 rcases bG w t with rfl|⟨l,e,c⟩|⟨a,b,e⟩
 ·exact cq▸ .nil
 ·exact c▸(w.fit t _ e).1
 exact e▸RZ ..
theorem WF.ndp(w:WF R)(t:Nat):(ae R t).Nodup:=(w.sorted t).imp λh=>Q9 h
theorem WF.inj(w:WF R){s t:Nat}(h:∀p,p∈ae R s↔p∈ae R t):s=t:=by
 have e:ae R s=ae R t:=((SU (w.ndp s) (w.ndp t)).mpr h).eq_of_pairwise (λa b c c C d=>VC (Q0 C d) (RN _)) (w.sorted s) (w.sorted t);have two:∀{s:Nat}{l:W9},R[s]?=some (.uni l)->∀{p},l≠[p]:=λe p h=>by subst h;exact VC (w.fit _ _ e).2.1 (VB.mpr (QF 1))
 have j:∀{s:Nat}{l:W9},R[s]?=some (.uni l)->l≠[]:=λe h=>by subst h;exact VC (w.fit _ _ e).2.1 (Sj 1)
 rcases bG w s with rfl|⟨l,C,A⟩|⟨_,_,A⟩<;>rcases bG w t with rfl|⟨g,d,G⟩|⟨_,_,G⟩
 ·rfl
 ·exact VC (G.symm.trans (e.symm.trans cq)) (j d)
 ·exact nomatch G.symm.trans (e.symm.trans cq)
 ·exact VC (A.symm.trans (e.trans cq)) (j C)
 ·exact w.uniq C ((A.symm.trans (e.trans G))▸d)
 ·exact VC (A.symm.trans (e.trans G)) (two C)
 ·exact nomatch A.symm.trans (e.trans cq)
 ·exact VC (G.symm.trans (e.symm.trans A)) (two d)
 exact(QB (A.symm.trans (e.trans G))).1
end
def PS(R:List Row)(t:Nat):bC:=λp=>p∈ae R t
def aC(R:List Row)(S:bC):bC:=λp=>(S 1->p=1)/\S p/\rH R S p
section
variable{R U:List Row}{S S':bC}{p k:Nat}
theorem dL(h:R<+:U)(l:∀p,S p->p<R.length):aC U S=aC R S:=by funext p;refine QR (Rx λa=>Rx λm=>?_);unfold rH;rw[gZ h (l p m)]
theorem uV(w:WF R)(c:k=6\/k=7)(m: ¬S 1):aC R S k↔S k:=by
 refine⟨λh=>h.2.1,λh=>⟨λz=>VC z m,h,λr e n=>?_⟩⟩;rcases c with rfl|rfl
 ·cases Qh ((w.get (t:=6) rfl).symm.trans e);exact VC rfl n
 cases Qh ((w.get (t:=7) rfl).symm.trans e);exact VC rfl n
theorem j1(w:WF R):aC R S 1↔S 1:=
 ⟨λh=>h.2.1,λh=>⟨λa=>rfl,h,λr e n=>by cases Qh ((w.get (t:=1) rfl).symm.trans e);exact VC rfl n⟩⟩
theorem gn:∀{r:Row},bn r≠0->bn r=6\/bn r=7
 |.str _,_=>.inl rfl
 |.num _,_=>.inr rfl
 |.key _,h=>VC rfl h
 |.bool _ _,h=>VC rfl h
 |.obj,h=>VC rfl h
 |.uni _,h=>VC rfl h
 |.arr _ _,h=>VC rfl h
 |.tup _ _,h=>VC rfl h
theorem n5(w:WF R)(a:∀p,S' p->S p)(b:∀p,aC R S p->S' p):aC R S'=aC R S:=by
 have C:S' 1↔S 1:=⟨a 1,λh=>b 1 ((j1 w).mpr h)⟩;funext p;refine QR ⟨λh=>⟨λz=>h.1 (C.mpr z),a p h.2.1,λr e n z=>?_⟩,λh=>⟨λz=>h.1 (C.mp z),b p h,λr e n z=>h.2.2 r e n (a _ z)⟩⟩;by_cases m:S 1
 ·cases h.1 (C.mpr m);cases Qh ((w.get (t:=1) rfl).symm.trans e);exact VC rfl n
 exact h.2.2 r e n (b _ ((uV w (gn n) m).mpr z))
theorem DE(w:WF R){s l:bC}:aC R (λp=>aC R s p\/l p)=aC R (λp=>s p\/l p):=by refine n5 w (λp h=>h.imp_left λh=>h.2.1) λp h=>h.2.1.imp_left λm=>⟨λz=>h.1 (.inl z),m,λr e n z=>h.2.2 r e n (.inl z)⟩
theorem iI(w:WF R):aC R (aC R S)=aC R S:=n5 w (λp h=>h.2.1) λp h=>h
theorem Ea(w:WF R):rH R S 1:=λr e n=>by cases Qh ((w.get (t:=1) rfl).symm.trans e);exact VC rfl n
theorem WF.norm(w:WF R){t:Nat}(o:ei R t):aC R (PS R t)=PS R t:=by
 funext p;refine QR ⟨λh=>h.2.1,λh=>?_⟩;rcases bG w t with rfl|⟨l,e,c⟩|⟨a,b,e⟩
 ·exact VC (sB cq h:p∈[]) PH
 ·have h:p∈l:=sB c h;show aC R (λp=>p∈ae R t) p;refine rR c ?_;have f:=(w.fit t _ e).2.2;exact⟨λz=>VC rfl (f 1 z).2.2.1,h,(f p h).2.2.2.2.2⟩
 have h:p∈[t]:=sB e h;show aC R (λp=>p∈ae R t) p;refine rR e ⟨λz=>(PG.mp h).trans (PG.mp z).symm,h,λr m n z=>?_⟩;cases PG.mp h;rcases gn n with k|k<;>simp only[k] at z<;>cases PG.mp z
 ·cases Qh ((w.get (t:=6) rfl).symm.trans m);exact n rfl
 cases Qh ((w.get (t:=7) rfl).symm.trans m);exact n rfl
end
theorem all_map{t d:Type}{l:List t}{g:t->d}{f:d->Bool}(h:∀x,f (g x)=true):(l.map g).all f=true:=Qc.mpr λa i=>am (P1.mp i) λx a e=>sB e (h x)
theorem xn:∀(r:Row),cp r.toV=2
 |.key _=>rfl
 |.bool _ _=>rfl
 |.obj=>rfl
 |.str _=>rfl
 |.num _=>rfl
 |.uni _=>rfl
 |.arr _ _=>rfl
 |.tup _ _=>rfl
theorem jD{r:Row}(v:cF r.toV=true):aI r.toV (je R)=true:=
 P7.mpr ⟨v,all_map λp=>Qd.mpr ((xn _).trans (xn _).symm)⟩
theorem Db(K:W9):cF (Row.uni K).toV=true:=
 P7.mpr ⟨all_map (g:=nV) (f:=dN 2) λa=>rfl,rfl⟩
theorem xe(K:V9)(ro:Nat):cF (Row.tup K ro).toV=true:=
 P7.mpr ⟨all_map (g:=pV) (f:=dN 2) λa=>rfl,rfl⟩
theorem jC:∀{R:List Row}{k:Nat},aJ r.toV ((R.zipIdx k).map λp=>(p.1.toV,nV p.2))=if r∈R then some (nV (R.idxOf r+k)) else none:=by
 intro l;induction l with
 |nil=>intro _;exact(PV PH).symm
 |cons x R ih=>
  intro k;simp only[List.zipIdx_cons,QG,aJ];by_cases h:x=r
  ·refine rR h ?_;rw[PW rfl,PW (.head _),List.idxOf_cons_self,Rh]
  rw[PV λe=>h (Row.toV_inj e),ih,List.idxOf_cons,beq_false_of_ne h,cond_false];by_cases m:r∈R
  ·rw[PW m,PW (.tail _ m),Qy,QH]
  exact rR (PV m) (rR (PV λz=>(P0.mp z).elim (λe=>h e.symm) m) rfl)
theorem fU:∀{es:X7},aJ k es=none->gJ k v es=es++[(k,v)]:=by
 intro l;induction l with
 |nil=>intro _;exact rfl
 |cons p r ih=>
  intro h;simp only[aJ] at h;rw[gJ];by_cases e:p.1=k
  ·rw[PW e] at h;cases h
  rw[PV e] at h⊢;refine rR (ih h) ?_;rfl
theorem Ax(h:r∉R):gJ r.toV (nV R.length) (je R)=je (R++[r]):=by refine(fU (es:=je R) (jC.trans (PV h))).trans ?_;unfold je;simp only[List.zipIdx_append,PU,Rh];rfl
section
variable{c:cR}{g:bM}{d:Nat}{X:Y8}{σ:Hp}{Q:KV}{ns:Z9}
section
variable{b t:Nat}{l:Addr}{r:Row}
mutual
theorem H.le(h:H c g b t X σ):g.rows.length<=lim:=P2 h.rows_lt
theorem dw(k:ai c)(h:H c g b t X σ)(q:Q (.ref c.rows) σ):kE (aa l ns) "rows" Q (.ref c.tab) σ:=aW h.c_tab k.t_rows rfl q
theorem iT(h:H c g b t X σ)(e:g.rows[i]?=some r)(q:Q r.toV σ):dS (.ref c.rows) Q (nV i) σ:=
 cm h.c_rows (Q0 (jW e) h.rows_lt) ((QS ..).trans (PR _ e)) q
theorem cO{u:Type}{l:List u}{f:u->V}(e:xs=l.map f)(h:l.length<=n):xs.length<=n:=e▸(PL (as:=l) f).symm▸h
theorem MO(k:ai c)(h:H c g (b+1) t X σ)(v:cF r.toV=true)(q:∀o,H c (g.wr (dR g.rows r)) b t X o->Q (nV (vz g.rows r)) o):
  ad (aa l ns) (d+1) 234 [.ref c.tab,r.toV] σ Q:=by
 refine ah (F:=fy) rfl rfl (aW h.c_tab k.t_index rfl (oY (.dict h.c_index (jD v)) (cD (λm=>aW h.c_tab k.t_index rfl ?_) λm=>?_)))
 ·have m:r∈g.rows:=Ui λn=>by
   replace m:=(show aJ r.toV (je g.rows)=none from jC.trans (PV n))▸m;cases m
  refine rM h.c_index (jD v) (jC.trans (PW m)) (q σ ?_);exact rR (show dR g.rows r=g.rows from PW m) (h.dec (Qt _))
 ·have m:r∉g.rows:=λn=>by
   replace m:=(show aJ r.toV (je g.rows)=_ from jC.trans (PW n))▸m;cases m
  refine dw k h (kX (.lenL h.c_rows (cO rfl h.le:(g.rows.map Row.toV).length<=lim) (dw k h (bk (.append h.c_rows) (kJ (.append h.c_rows (cO rfl h.le:(g.rows.map Row.toV).length<=lim) (wExpr rfl ?_)))))));refine aW ((PV ((Holds.ne2 (A:=X) (B:=[_,_,_,_,_,_,_,_,_]) h.hs).symm:c.tab≠c.rows)).trans h.c_tab) k.t_index rfl (jT ((PV ((Holds.ne2 (A:=X) (B:=[]) h.hs).symm)).trans h.c_index) (jD v) (ID (PI ((PL _).trans Vp)) h.le) ?_);rw[PL];have:=q _ (show H c (g.wr (dR g.rows r)) b t X (upd (upd σ c.rows (.list (g.rows.map Row.toV++[r.toV]))) c.index (.dict (gJ r.toV (nV g.rows.length) (je g.rows)))) from by refine rR (Ax m) (rR (show dR g.rows r=g.rows++[r] from PV m) ?_);have s:=h.s_row r;replace s:=(PU)▸s;exact s);replace this:=(ze m)▸this;exact this
theorem Ma:(aa l ns).meth 237 "put" =some 234:=rfl
theorem Bh(k:ai c)(h:H c g (b+1) t X σ)(v:cF r.toV=true)(q:∀o,H c (g.wr (dR g.rows r)) b t X o->Q (nV (vz g.rows r)) o)(e:∀Q:KL,Q [r.toV] σ->es ρ σ Q):rF (aa l ns) (ad (aa l ns) (d+1)) "put" es ρ Q (.ref c.tab) σ:=
 eh h.c_tab k.t_put Ma (e _ (MO k h v q))
theorem Mi(k:ai c)(h:H c g (b+1) t X σ){s:Str}(v:PyData.strOk s=true)(q:∀o,H c (g.wr (dR g.rows (.str s))) b t X o->Q (nV (vz g.rows (.str s))) o):
  ad (aa l ns) (d+2) 256 [.ref c.tab,.str s,.int 0] σ Q:=
 ah (F:=qF) rfl rfl (Bh (r:=.str s) k h (P7.mpr ⟨v,rfl⟩) q λQ h=>h)
theorem He(k:ai c)(h:H c g (b+1) t X σ){i:Int}(q:∀o,H c (g.wr (dR g.rows (.num i))) b t X o->Q (nV (vz g.rows (.num i))) o):
  ad (aa l ns) (d+2) 264 [.ref c.tab,.int i,.int 0] σ Q:=
 ah (F:=qH) rfl rfl (Bh (r:=.num i) k h rfl q λQ h=>h)
theorem zi(k:ai c)(h:H c g (b+1) t X σ){e ro:Nat}(q:∀o,H c (g.wr (dR g.rows (.arr e ro))) b t X o->Q (nV (vz g.rows (.arr e ro))) o):
  ad (aa l ns) (d+2) 272 [.ref c.tab,nV e,nV ro] σ Q:=
 ah (F:=m0) rfl rfl (Bh (r:=.arr e ro) k h rfl q λQ h=>h)
noncomputable def Row.kind:Row->Nat
 |.key _=>1|.bool _ _=>2|.obj=>8|.str _=>3|.num _=>4|.uni _=>6|.arr _ _=>11|.tup _ _=>12
theorem Cq:∀r:Row,∃vs,r.toV=.tup (nV r.kind::vs)
 |.key _=>⟨_,rfl⟩
 |.bool _ _=>⟨_,rfl⟩
 |.obj=>⟨_,rfl⟩
 |.str _=>⟨_,rfl⟩
 |.num _=>⟨_,rfl⟩
 |.uni _=>⟨_,rfl⟩
 |.arr _ _=>⟨_,rfl⟩
 |.tup _ _=>⟨_,rfl⟩
theorem NL{u:Type}{a:u}{r:List u}:Eu (a::r) 0=some a:=rfl
theorem bI{r:Row}(q:Q (nV r.kind) σ):dS r.toV Q (.int 0) σ:=PO (Cq r) λvs e=>rR e (bx NL q)
set_option tactic.hygienic true in
theorem we(h:r.kind=6):∃l,r=.uni l:=by
 induction r
 case uni l=>exact⟨l,rfl⟩
 all_goals exact VC h (Nat.ne_of_beq_eq_false rfl)
theorem uO(m:ai c)(h:H c g b t X σ)(hi:i<g.rows.length)(q:Q (.tup ((ae g.rows i).map nV)) σ):ad (aa l ns) (d+1) 314 [.ref c.tab,nV i] σ Q:=by
 refine ah (F:=qC) rfl rfl (ag (b:=2) (az (λe=>?_) λn=>?_))
 ·subst e;exact q
 have e:g.rows[i]?=some g.rows[i]:=P4 hi;generalize g.rows[i]=r at e;refine dw m h (iT h e (bI (ag (b:=6) (az (λk=>?_) λk=>?_))))
 ·obtain⟨s,rfl⟩:=we k;have p:ae g.rows i=s:=(PV n).trans (rR e rfl);exact bx rfl (p▸q)
 replace q:=(bf n λs es=>k (by cases e.symm.trans es;rfl))▸q;exact q
theorem uD(q:Q (.int (if bn r=0 then-1 else(bn r:Nat))) σ):ad (aa l ns) (d+1) 321 [r.toV] σ Q:=by
 refine ah (F:=jM) rfl rfl (bI (ag (b:=3) ?_));induction r
 case str=>exact aq (aq q)
 case num=>exact af (ag (b:=18) (af (ag (b:=4) (aq q))))
 all_goals exact af (ag (b:=18) (af (ag (b:=4) (af (ag (b:=5) (af (kr q)))))))
end
end
mutual
def dY(U:W9):X7:=U.map λp=>(nV p,.int 1)
noncomputable def Bx(U:W9)(p:Nat):W9:=if p∈U then U else U++[p]
def bR(U ps:W9):W9:=ps.foldl Bx U
theorem jy:aI (.int i) (dY U)=true:=P7.mpr ⟨rfl,all_map λa=>rfl⟩
theorem wm:∀{U:W9},aJ (nV p) (dY U)=if p∈U then some (.int 1) else none:=by
 intro l;induction l with
 |nil=>exact(PV PH).symm
 |cons x U ih=>
  unfold dY;rw[QG,aJ];by_cases h:x=p
  ·exact rR h (rR (PW rfl) (rR (PW (.head _)) rfl))
  rw[PV λe=>h (iH e)];refine(ih).trans ?_;have z:p∈U↔p∈x::U:=⟨.tail _,λz=>(P0.mp z).elim (λe=>VC e.symm h) id⟩;by_cases m:p∈U
  ·exact rR (PW m) (rR (PW (z.mp m)) rfl)
  rw[PV m,PV λy=>m (z.mpr y)]
theorem BW:(aJ (nV p) (dY U)).isSome=decide (p∈U):=by
 refine rR wm ?_;by_cases h:p∈U
 ·refine rR (PW h) (rR (Qg h) ?_);rfl
 refine rR (PV h) (rR (Qb h) ?_);rfl
theorem Ar(h:i<0):∀{U:W9},aJ (.int i) (dY U)=none
 |[]=>rfl
 |x::U=>(PV λe=>VC (V.int.inj e▸h) (Su.mpr (Rb x))).trans (Ar h (U:=U))
theorem rB:∀{U:W9},p∈U->gJ (nV p) (.int 1) (dY U)=dY U
 |x::U,h=>by
  unfold dY;rw[QG,gJ];by_cases e:x=p
  ·exact sB e (PW rfl)
  exact rR (PV λz=>e (iH z)) (PR _ (rB ((P0.mp h).elim (λz=>VC z.symm e) id)))
theorem Au:gJ (nV p) (.int 1) (dY U)=dY (Bx U p):=by
 unfold Bx;by_cases h:p∈U
 ·exact rR (PW h) (rB h)
 refine rR (PV h) (rR (fU (wm.trans (PV h))) ?_);exact(PU (f:=λp=>(nV p,V.int 1)) (l₁:=U) (l₂:=[p])).symm
theorem Ay:q∈Bx U p↔q∈U\/q=p:=by
 unfold Bx;split
 ·exact⟨.inl,λh=>h.elim id λe=>rR e (‹_›)⟩
 exact P3.trans (Tv PG)
theorem sU(h:U.Nodup):(Bx U p).Nodup:=by
 unfold Bx;split
 ·exact h
 exact Q8.mpr ⟨h,QK.mpr ⟨PH,.nil⟩,λa w b f e=>‹¬_› (PG.mp f▸e▸w)⟩
theorem Gg:(Bx U p).length<=U.length+1:=by
 unfold Bx;split
 ·exact Qt _
 exact PI PQ
theorem iQ:∀{ps U:W9},q∈bR U ps↔q∈U\/q∈ps:=by
 intro l;induction l with
 |nil=>intro U;exact⟨.inl,λh=>h.elim id nofun⟩
 |cons p ps ih=>intro U;exact(ih).trans (by rw[Ay,P0,or_assoc])
theorem fQ:∀{ps U:W9},U.Nodup->(bR U ps).Nodup:=by
 intro l;induction l with
 |nil=>intro _ h;exact h
 |cons _ ps ih=>intro _ h;exact ih (sU h)
theorem k8:∀{ps U:W9},(bR U ps).length<=U.length+ps.length:=by
 intro l;induction l with
 |nil=>intro _;exact PD _
 |cons p ps ih=>intro U;exact ID (ih) (ID (PX Gg _) (PI (Qy ..)))
theorem iR:bR U (ps++qs)=bR (bR U ps) qs:=Tw
theorem qN(f:U.Nodup){l:Z9}(p:l.Perm (U.map λ(n:Nat)=>(n:Int)))(o:l.Pairwise (· <= ·)):∃L:W9,l.map V.int=L.map nV/\L.Pairwise (· < ·)/\L.Perm U:=by
 have e:l=(l.map Int.toNat).map λ(n:Nat)=>(n:Int):=by refine rR QA (((QM λx i=>?_).trans (U7 l)).symm);exact am (P1.mp (p.mem_iff.mp i)) λn _ A=>sB A (PR _ (Tu n))
 have q:(l.map Int.toNat).Perm U:=by have:=p.map Int.toNat;simp only[QA] at this;exact this.trans (List.Perm.of_eq ((QM λx a=>Tu x).trans (U7 U)))
 refine(oW (l.map Int.toNat) ((PR _ e).trans (QA ..)) ?_ q);exact((To.mpr (o.imp λh=>Int.toNat_le_toNat h):(l.map Int.toNat).Pairwise (· <= ·)).and (q.nodup_iff.mpr f)).imp λh=>QN h.1 h.2
def ie(R:List Row)(U:W9)(p:Nat):Bool:=(R[p]?).any λr=>decide (bn r=0\/bn r∉U)
theorem sW(h:p<R.length):ie R U p=true↔rH R (· ∈U) p:=by delta ie rH;refine rR (P4 h) ?_;exact decide_eq_true_iff.trans ⟨λa r e n m=>by cases e;exact a.elim n λz=>z m,λa=>Decidable.or_iff_not_imp_left.mpr λn=>a _ rfl n⟩
noncomputable def nL:Row->Bool|.bool _ f=>f==1|_=>false
set_option tactic.hygienic true in
theorem WF.unfresh(w:WF R)(e:R[t]?=some r)(o:o0 t):nL r=false:=by
 induction r
 case bool v f=>
  have s:t<16:=w.fit t _ e
  rcases(by decide:∀t,t<16->t=14\/t=15\/(bZ[t]?).all (λr=> !nL r)=true) t s with h|h|h
  ·exact VC h o.2.2.1
  ·exact VC h o.2.2.2.1
  ·rw[((gZ w.first s).symm.trans e:bZ[t]?=some (.bool v f))] at h;exact(QD _).mp h
 all_goals rfl
end
section
variable{b t:Nat}{l a:Addr}{r:Row}{U:W9}
theorem jF(e:σ a=some (.dict (dY U)))(p:Nat):In σ (nV p) (.ref a) (decide (p∈U)):=
 sB BW (.dict e jy)
theorem Ca(e:σ a=some (.dict (dY U))):In σ (.int (-1)) (.ref a) false:=
 sB (show(aJ (.int (-1)) (dY U)).isSome=false by refine rR (Ar dD) ?_;rfl) (.dict e jy)
set_option tactic.hygienic true in
theorem yO(m:ai c)(h:H c g b t X σ)(e:g.rows[i]?=some r)(f:nL r=false)(q:Q (.int (-1)) σ):ad (aa l ns) (d+1) 328 [.ref c.tab,nV i] σ Q:=by
 refine ah (F:=jt) rfl rfl (dw m h (iT h e (bI (oY (.tup rfl) ?_))))
 have z:C5 (Iz [some (V.ref c.tab),some (nV i),some r.toV] (vE (fS (aa l ns) (ad (aa l ns) d) .nil) (fJ Q))) (.int 1) σ:=kr q
 induction r
 case str=>exact aq (kr (bx rfl (ag (a:=0) (b:=1) (af z))))
 case num=>exact aq (kr (bx rfl (ag (a:=0) (b:=1) (af z))))
 case obj=>exact aq (kr (bx rfl (ag (a:=0) (b:=1) (af z))))
 case bool v k=>exact aq (kr (bx rfl (ag (a:=k) (b:=1) (az (λh=>VC (f.symm.trans (Qd.mpr h)) PC) λj=>z))))
 all_goals exact af (af z)
theorem Kq(m:ai c)(h:H c g b t X σ)(Y:σ a=some (.dict (dY U)))(e:g.rows[i]?=some r)(f:nL r=false)(q:Q (.bool (ie g.rows U i)) σ):ad (aa l ns) (d+2) 342 [.ref c.tab,.ref a,nV i] σ Q:=by
 refine ah (F:=jz) rfl rfl (yO m h e f (oY (Ca Y) (af (dw m h (iT h e (uD ?_))))));unfold ie at q;rw[e] at q;have q:Q (.bool (decide (bn r=0\/bn r∉U))) σ:=q;by_cases k:bn r=0
 ·refine rR (PW k) ?_;rw[Qg (.inl k)] at q;exact DY (Ca Y) q
 refine rR (PV k) ?_;rw[show decide (bn r=0\/bn r∉U)= !decide (bn r∈U) from(QJ.mpr (S0 k)).trans Vl] at q;exact DY (jF Y _) q
theorem Lc(Y:σ a=some (.dict (dY U)))(C:0∉U)(e:13∉U)(q:Q (.int (if 1∈U then 1 else-1)) σ):ad (aa l ns) (d+1) 349 [.ref a] σ Q:=by
 refine ah (F:=vP) rfl rfl (?_:ii _ _ _ _ _ _);unfold ii;refine⟨_,.tup,.tup,oY (sB (Qb C) (jF Y 0):In σ (.int 0) (.ref a) false) (af ⟨.tup,oY (Qb e▸jF Y 13) (af ⟨.tup,oY (jF Y 1) (az (λh=>?_) λh=>⟨.tup,kr ?_⟩)⟩)⟩)⟩
 ·rw[PW h] at q;exact q
 rw[PV h] at q;exact q
theorem xw(e:σ a=some o):upd σ a o=σ:=funext λx=>by
 unfold upd;split
 ·exact‹x=a›▸e.symm
 rfl
theorem EN(Y:σ a=some (.dict (dY U)))(z:14∉U)(L:15∉U)(u:U.length<=lim)(q:Q .none σ):ad (aa l ns) (d+1) 335 [.ref a] σ Q:=by
 have set:∀p,p∈U->∀{ρ:Env}{K:KS},K .next ρ σ->cL (.ref a) (nV p) (.int 1) ρ K σ:=λp m ρ K k=>
  jT Y jy (ID (PI (PL _)) u:(dY U).length<=lim) ((Qe (rB m))▸(rR (xw Y) k))
 have e:In σ (.int 8) (.ref a) (decide (8∈U)):=jF Y 8;have s:In σ (.int 9) (.ref a) (decide (9∈U)):=jF Y 9;refine ah (F:=mF) rfl rfl ?_;by_cases N:8∈U
 ·replace e:=(Qg N)▸e;by_cases i:9∈U
  ·replace s:=(Qg i)▸s;exact oY e (aq (aq (oY s (aq (aq (set 8 N (set 9 i q)))))))
  replace s:=(Qb i)▸s;exact oY e (aq (aq (oY s (af (oY (Qb L▸jF Y 15) (af q))))))
 replace e:=(Qb N)▸e;exact oY e (af (oY (sB (Qb z) (jF Y 14):In σ (.int 14) (.ref a) false) (af (af q))))
end
end
def Seq(X:Y8)(v:V)(vs:Z7):Prop:=v=.tup vs\/∃a,v=.ref a/\(a,O.list vs)∈X
structure d1(R R':List Row):Prop where
 pre:R<+:R'
 wf:WF R'
theorem d1.refl(w:WF R):d1 R R:=⟨Ry _,w⟩
theorem d1.trans(a:d1 R R')(b:d1 R' R''):d1 R R'':=⟨a.pre.trans b.pre,b.wf⟩
def IU(R:List Row):W9->List Row×Nat
 |[]=>(R,2)
 |[x]=>(R,x)
 |x::y::l=>(dR R (.uni (x::y::l)),vz R (.uni (x::y::l)))
section
variable{c:cR}{g:bM}{b t d:Nat}{X:Y8}{σ:Hp}{Q:KV}{l a:Addr}{ns:Z9}{r:Row}
theorem Seq.items(s:Seq X v vs)(h:H c g b t X σ):cC σ v vs:=by
 rcases s with rfl|⟨a,rfl,m⟩
 ·exact .tup
 exact .list (h.loc m)
theorem Seq.more(s:Seq X v vs)(h:∀p∈X,p∈Y):Seq Y v vs:=s.imp_right λo=>by exact am (o) λa B m=>(aK a B (h _ m))
def ig(R:List Row)(ts:W9):W9:=bR [] (ts.flatMap (ae R))
theorem L2(ck:ai c)(h:H c g (b+1) t X σ)(sq:Seq X pv (ts.map nV))(hv:∀i∈ts,i<g.rows.length)(hU:∀p∈ig g.rows ts,o0 p/\∃r,g.rows[p]?=some r/\nL r=false)(hz:(ts.flatMap (ae g.rows)).length<64)(q:∀K R' u v,K.Pairwise (· < ·)->(∀p,p∈K↔p∈ig g.rows ts/\(1∈ig g.rows ts->p=1)/\(1∉ig g.rows ts->ie g.rows (ig g.rows ts) p=true))->IU g.rows K=(R',u)->H c (g.wr R') b t X v->Q (nV u) v):
  ad (aa l ns) (d+3) 354 [.ref c.tab,pv] σ Q:=by
 refine ah (F:=za) rfl rfl (?_:d8 _ _ _)
 unfold d8
 refine(Io ([]) rfl rfl rfl dD .nil (λa ha=>?_))
 refine gO ((sq.more λø m=>.tail _ m).items (h.new ha:H c g (b+1) t ((a,.dict (dY []))::X) (upd σ a (.dict [])))) (λs ρ σ=>(∃w1 M,ρ=[some (.ref c.tab),some pv,some (.ref a),w1,M,none,none,none])/\H c g (b+1) t ((a,.dict (dY (ig g.rows s)))::X) σ) ⟨(vy none none rfl),(h.new ha:H c g (b+1) t ((a,.dict (dY []))::X) (upd σ a (.dict [])))⟩ (λs x r e R hR ρ σ i=>?_) λρ σ i=>⟨(sq.more λø m=>.tail _ m).items i.2,?_⟩
 ·refine i5 i.1 λw1 M J=>rR J ?_;have C:=i.2;have hx:x∈ts:=rR e (PK _ (.head _));refine⟨(sq.more λø m=>.tail _ m).items C,uO ck C (hv x hx) ?_⟩;refine gO (f:=nV) .tup (λs' ρ σ=>(∃M,ρ=[some (.ref c.tab),some pv,some (.ref a),some (nV x),M,none,none,none])/\H c g (b+1) t ((a,.dict (dY (bR (ig g.rows s) s')))::X) σ) ⟨⟨M,rfl⟩,C⟩ (λs' y r' e' R' du ρ σ i=>⟨.tup,?_⟩) λρ σ i=>⟨.tup,hR _ _ ⟨i.1.elim λw e=>(vy _ w e),?_⟩⟩
  ·refine PO i.1 λM Y=>rR Y ?_;have h2:=i.2;have hl:(dY (bR (ig g.rows s) s')).length<=lim:=by refine ID (PI (PL _)) (ID k8 (ID ?_ (show 64<=lim by decide)));refine ID (PX k8 _) (ID ?_ (P2 hz));simp only[e,Qx,QE,e',PQ,PQ,PQ,SK,Rh,QH];exact P8 (PM _ _) _
   refine jT (h2.loc (.head _)) jy hl (du _ _ ⟨⟨_,rfl⟩,?_⟩);simp only[Au,show Bx (bR (ig g.rows s) s') y=bR (ig g.rows s) (s'++[y]) from(iR (qs:=[y])).symm];exact h2.head
  exact rR (show ig g.rows (s++[x])=bR (ig g.rows s) (ae g.rows x) from by unfold ig;simp only[Qx,iR,Rj]) i.2
 ·refine i5 i.1 λw1 M j=>rR j ?_;have C:=i.2;have hn:(ig g.rows ts).Nodup:=fQ .nil;have B:(ig g.rows ts).length<64:=PJ k8 (PJ (PI (Rh _)) hz);generalize ig g.rows ts=U at*;have nid:∀{k:Nat},¬o0 k->k∉U:=λn m=>n (hU _ m).1;have ea:=C.loc (.head _);refine Lc ea (nid λh=>h.1 rfl) (nid λh=>h.2.1 rfl) ?_;by_cases G:1∈U
  ·simp only[PW G];refine cw .ge (aq (q [1] _ 1 _ (RZ ..) (λp=>?_) rfl (C.tail.dec (Qt _))));exact PG.trans ⟨λe=>by subst e;exact⟨G,λø=>rfl,λz=>VC G z⟩,λh=>h.2.1 G⟩
  simp only[PV G];refine cw .ge (af (EN ea (nid λh=>h.2.2.1 rfl) (nid λh=>h.2.2.2.1 rfl) (ID (P2 B) dD) (wExpr rfl ?_)));refine kX (.sortI (l:=U.map λ(n:Nat)=>(n:Int)) ea (PJ (PI (PL _)) B) (by unfold dY;simp only[QA,QA];rfl) λl' pl ol s hs=>?_);refine nR (qN hn pl ol) λL e hL I=>?_;simp only[e];have hK:(L.filter (ie g.rows U)).length<=64:=ID (Tz ..) (ID (PI I.length_eq) (P2 B));refine oM (f:=nV) (.list ((C.new (o:=.list (L.map nV)) hs).loc (.head _))) (ID (PI I.length_eq) (ID (P2 B) dD)) (λs acc σ=>acc=(s.filter (ie g.rows U)).map nV/\H c g (b+1) t _ σ) ⟨rfl,(C.new (o:=.list (L.map nV)) hs)⟩ (λs x r e R acc hR σ i=>?_) λacc σ i=>?_
  ·have e1:=i.1;have N:=i.2;have ZG:=hU x (I.mem_iff.mp (rR e (PK _ (.head _))));refine am ZG.2 λw ew fw=>⟨.list (N.loc (.head _)),Kq ck N (N.loc (.tail _ (.head _))) ew fw ?_⟩;refine rR e1 ?_;cases hx:ie g.rows U x
   ·refine af (hR _ _ ⟨?_,N⟩);simp only[Vq,Ux (Qv.mp hx)];exact PR _ (Qm _).symm
   refine aq (hR _ _ ⟨?_,N⟩);simp only[Vq,Uy hx,PU];rfl
  obtain⟨rfl,N⟩:=i;refine⟨.list (N.loc (.head _)),λk hk=>?_⟩;have h4:=N.new (o:=.list ((L.filter (ie g.rows U)).map nV)) hk;have T:=h4.loc (.head _);have hp:=hL.sublist (List.filter_sublist (p:=ie g.rows U));have hm:∀p,p∈L.filter (ie g.rows U)↔p∈U/\(1∈U->p=1)/\(1∉U->ie g.rows U p=true):=λp=>
   List.mem_filter.trans ⟨λh=>⟨I.mem_iff.mp h.1,λz=>VC z G,λø=>h.2⟩,λh=>⟨I.mem_iff.mpr h.1,h.2.2 G⟩⟩;generalize L.filter (ie g.rows U)=K at*;have A:(K.map nV).length<=lim:=ID (PI (PL _)) (ID hK dD);refine KM T A ?_;cases K with
  |nil=>exact aq (q [] _ 2 _ hp hm rfl (h4.tail.tail.tail.dec (Qt _)))
  |cons x K=>
   induction K with
   |nil=>exact af (kX (.lenL T A (ag (a:=1) (b:=1) (aq (cm (i:=0) T dD rfl (q [x] _ x _ hp hm rfl (h4.tail.tail.tail.dec (Qt _))))))))
   |cons y K=>
    refine af (kX (.lenL T A (ag (b:=1) (az (λh=>?_) λø=>kX (.lenL T A (cw .gt ?_))))))
    ·exact VC h (Nat.succ_succ_ne_one _)
    simp only[Qb (show¬(400:Int)<((x::y::K).map nV).length from Su.mpr (SE.mpr (ID (PI (PL _)) (ID hK dD))))];exact af (Bh (r:=.uni (x::y::K)) ck h4.tail.tail.tail (Db _) (λv h6=>q _ _ _ v hp hm rfl h6) λQ z=>kX (.tuple T A z))
section
variable{R U:List Row}
theorem dT(e:R<+:U)(h:t<R.length):PS U t=PS R t:=funext λp=>by unfold PS;exact rR (fX e h) rfl
theorem oS(w:WF R)(o:ei R t)(h:PS R t p):p<R.length:=(w.parts o h).1.1
theorem xp:p∈ig R ts↔∃i∈ts,PS R i p:=iQ.trans ((S0 PH).trans Rs)
theorem mD(k:ai c)(h:H c g (b+1) t X σ)(w:WF g.rows){ts:W9}(J:Seq X pv (ts.map nV))(G:∀i∈ts,ei g.rows i)(hz:(ts.flatMap (ae g.rows)).length<64)(q:∀U u s,d1 g.rows U->ei U u->PS U u=aC g.rows (λp=>∃i∈ts,PS g.rows i p)->H c (g.wr U) b t X s->Q (nV u) s):
  ad (aa l ns) (d+3) 354 [.ref c.tab,pv] σ Q:=by
 have B:∀p∈ig g.rows ts,ei g.rows p/\p≠2/\cf g.rows p:=λp v=>by exact am (xp.mp v) λi hi m=>w.parts (G i hi) m
 refine L2 k h J (λi hi=>(G i hi).1) (λp v=>?_) hz λK U u s L M e h'=>?_
 ·have o:=(B p v).1;exact⟨o.2,_,P4 o.1,w.unfresh (P4 o.1) o.2⟩
 ·have A:∀p∈K,ei g.rows p/\p≠2/\cf g.rows p:=λp v=>B p ((M p).mp v).1;have j:(λp=>p∈K)=aC g.rows (λp=>∃i∈ts,PS g.rows i p):=by
   funext p;refine QR ((M p).trans ?_);have e:(λp=>p∈ig g.rows ts)=λp=>∃i∈ts,PS g.rows i p:=funext λp=>QR xp;refine sB e ⟨λh=>⟨h.2.1,h.1,?_⟩,λh=>⟨h.2.1,h.1,λI=>(sW (B p h.2.1).1.1).mpr h.2.2⟩⟩;refine(RA (1∈ig g.rows ts)).elim (λm=>?_) λm=>?_
   ·rw[h.2.1 m];intro r e n;cases Qh ((w.get (t:=1) rfl).symm.trans e);exact VC rfl n
   exact(sW (B p h.1).1.1).mp (h.2.2 m)
  rw[<-j] at q;cases K with
  |nil=>cases e;exact q _ 2 s (.refl w) ⟨P5 dD w.len,by decide,by decide,by decide,by decide,by decide⟩ (funext λp=>PR (p∈ ·) cq) h'
  |cons x K=>
   have T:=A x (.head _);cases K with
   |nil=>cases e;exact q _ _ s (.refl w) T.1 (funext λp=>PR (p∈ ·) (bf T.2.1 T.2.2)) h'
   |cons y K=>cases e;have f:xZ g.rows g.rows.length (.uni (x::y::K)):=⟨L,Qp 2 _,λp v=>⟨(A p v).1.1,(A p v).1.2,λC=>by exact VC ((λz hz=>((M z).mp hz).2.1 (sB C (((M p).mp v).1)):∀z∈x::y::K,z=1) y (.tail _ (.head _))) (So (PJ (PI ((λz hz=>((M z).mp hz).2.1 (sB C (((M p).mp v).1)):∀z∈x::y::K,z=1) x (.head _)).symm) ((RJ.mp L).1 y (.head _)))),(A p v).2.1,(A p v).2.2,λr e n z=>((RT j p).mp v).2.2 r e n ((RT j _).mp z).2.1⟩⟩;refine q _ _ s ⟨cx,w.put f⟩ (lp w f rfl) (funext λp=>?_) h';unfold PS;exact rR (nO (w.put f) dz) rfl
theorem Aq(k:ai c)(h:H c g (b+1) t X σ)(w:WF g.rows){i:Nat}(x:ei g.rows i)(hz:(ae g.rows i).length<63)(q:∀U u v,d1 g.rows U->ei U u->PS U u=aC g.rows (λp=>PS g.rows i p\/p=4)->H c (g.wr U) b t X v->Q (nV u) v):
  ad (aa l ns) (d+4) 361 [.ref c.tab,nV i] σ Q:=by
 have B:ae g.rows 4=[4]:=bf dD (λl e=>nomatch (w.get (t:=4) rfl).symm.trans e:cf g.rows 4)
 refine ah (F:=oJ) rfl rfl (mD k h w (ts:=[i,4]) (.inl rfl) (λj I=>?_) ?_ λU u v e o s h'=>q U u v e o (s.trans (PR _ (funext λp=>QR ?_))) h')
 ·rcases P0.mp I with rfl|I
  ·exact x
  exact rR (PG.mp I) ⟨P5 dD w.len,by decide,by decide,by decide,by decide,by decide⟩
 ·rw[QE,Rj,B,PQ];exact SD hz
 ·refine⟨λf=>am f λj I m=>?_,λh=>h.elim (λm=>⟨i,.head _,m⟩) λe=>⟨4,.tail _ (.head _),e▸(rR B (.head _):4∈ae g.rows 4)⟩⟩;rcases P0.mp I with rfl|I
  ·exact .inl m
  cases PG.mp I;exact .inr (PG.mp (sB B m))
end
end
mutual
inductive Tm
 |nil|cons (a r:Tm)|leaf (i:Nat)|uni (l:Tm)|int (l:Tm)|arr (t:Tm)|tup (l:Tm)|ro (t:Tm)|el (s:Nat)(t:Tm)
noncomputable def yG:List (List Row):=[[.key "undefined"],[.key "null"],[.bool 0 0],[.bool 1 0],[.num 0],[.num (-1)],[.str "a"],[.str ""],[.key "string"],[.key "number"],[.bool 0 0,.bool 1 0],[.key "void"],[.key "object"],[.key "unknown"],[]]
def jc(i:Nat):List Row:=(yG[i]?).getD []
def rt(r s:Row):Bool:=decide (r=s)||(decide (s=.key "unknown")||(match r with
 |.str _=>decide (s=.key "string")
 |.num _=>decide (s=.key "number")
 |.key k=>decide (k="undefined" /\s=.key "void")
 |_=>false))
def le(R:List Row)(p q:Nat):=∃r s,R[p]?=some r/\R[q]?=some s/\rt r s=true
abbrev ja:=List (bC×Nat)
noncomputable def iY:Row->Option (V9×Nat)|.arr e r=>some ([(e,2)],r)|.tup l r=>some (l,r)|_=>none
noncomputable def bl(R:List Row)(l:V9):ja:=l.map λx=>(PS R x.1,x.2)
def LP(R:List Row)(es:ja)(ro:Nat):bC:=λp=>∃row l,R[p]?=some row/\iY row=some (l,ro)/\bl R l=es
def iw(R:List Row)(S:bC):bC:=aC R λp=>S p\/p=4
def late(R:List Row)(x:bC×Nat):bC:=if x.2=1 then iw R x.1 else x.1
def bB(l:List bC):bC:=λp=>∃S∈l,S p
noncomputable def ak:W9->Nat
 |[]=>0
 |m::r=>if ak r=0 then(if m=0 then 0 else 1) else ak r+1
noncomputable def nrm(R:List Row):ja->ja
 |[]=>[]
 |x::r=>if x.2=2 then(aC R (bB (((x::r).take (ak ((x::r).map (·.2)))).map (late R))),2)::(x::r).drop (ak ((x::r).map (·.2)))
  else(if x.2=1/\0∈r.map (·.2) then(iw R x.1,0) else x)::nrm R r
structure D where
 s:Nat->bC
 e:ja
 k:List bC
noncomputable def aT(R:List Row):Tm->D
 |.nil=>⟨λb b=>False,[],[]⟩
 |.cons a r=>⟨λb b=>False,(aT R a).e++(aT R r).e,(aT R a).s 0::(aT R r).k⟩
 |.leaf i=>⟨λb p=>∃r∈jc i,R[p]?=some r,[],[]⟩
 |.uni l=>⟨λb=>aC R (bB (aT R l).k),[],[]⟩
 |.int l=>⟨λb=>aC R λp=>bB (aT R l).k p/\∀S∈(aT R l).k,∃q,S q/\le R p q,[],[]⟩
 |.arr t=>⟨LP R [((aT R t).s 0,2)],[((aT R t).s 0,2)],[]⟩
 |.tup l=>⟨LP R (nrm R (aT R l).e),nrm R (aT R l).e,[]⟩
 |.ro t=>⟨λb=>(aT R t).s 1,(aT R t).e,[]⟩
 |.el s t=>⟨λb b=>False,if s=2 then(aT R t).e else[((aT R t).s 0,s)],[]⟩
noncomputable def gw:Tm->Bool|.arr _=>true|.tup _=>true|.ro t=>gw t|_=>false
end
section
open PyProof.Rows PySem.Spec
mutual
noncomputable def Em(a b:Str):Bool:= !ltCps b.cps.toList a.cps.toList
theorem eQ:Em a b=true↔a.cps.toList<=b.cps.toList:=by unfold Em;rw[ltCps_eq,QD,decide_eq_false_iff_not];exact List.not_lt
theorem Eb(h:Em a b=true)(h':Em b a=true):a=b:=by have:=List.le_antisymm (eQ.mp h) (eQ.mp h');induction a;induction b;exact PR Str.mk (Array.toList_inj.mp this)
abbrev Jm(l:Y9):Prop:=l.Pairwise λa b=>Em a b=true
theorem rJ(h:Jm l)(h':Jm r)(n:l.Nodup)(e:r.Nodup)(m:∀x,x∈l↔x∈r):l=r:=
 ((SU n e).mpr m).eq_of_pairwise (λa b c c x y=>Eb x y) h h'
noncomputable def eJ(K:Y9)(s:Str):Y9:=if s∈K then K else K++[s]
theorem Fm{K:Y9}(h:K.Nodup):(eJ K s).Nodup/\(∀x,x∈eJ K s↔x∈K\/x=s)/\(eJ K s).length<=K.length+1:=by
 unfold eJ;by_cases m:s∈K
 ·exact(Qe (PW m))▸⟨h,λx=>⟨.inl,λz=>z.elim id λe=>e▸m⟩,Qt _⟩
 exact(Qe (PV m))▸⟨Q8.mpr ⟨h,QK.mpr ⟨PH,.nil⟩,λa w b f e=>m (PG.mp f▸e▸w)⟩,λx=>P3.trans (Tv PG),PI PQ⟩
theorem dJ:∀{l K:Y9},K.Nodup->(l.foldl eJ K).Nodup/\(∀x,x∈l.foldl eJ K↔x∈K\/x∈l)/\(l.foldl eJ K).length<=K.length+l.length:=by
 intro m;induction m with
 |nil=>intro K h;exact⟨h,λx=>(or_iff_left PH).symm,PD _⟩
 |cons s l ih=>intro K h;have C:=Fm (s:=s) h;have i:=ih C.1;exact⟨i.1,λx=>(i.2.1 x).trans ((or_congr_left (C.2.1 x)).trans (or_assoc.trans (Tv P0.symm))),ID i.2.2 (ID (PX C.2.2 _) (PI (Ur ..)))⟩
def rY(l:Y9):Y9:=(l.foldl eJ []).mergeSort Em
theorem eP(l:Y9):Jm (rY l)/\(rY l).Nodup/\∀x,x∈rY l↔x∈l:=by have q:=dJ (l:=l) (K:=[]) .nil;have a:=q.1;have b:=q.2.1;refine⟨List.pairwise_mergeSort (le:=Em) (λa b c h h'=>eQ.mpr (List.le_trans (eQ.mp h) (eQ.mp h'))) (λ(a b:Str)=>Qw.mpr ((List.le_total a.cps.toList b.cps.toList).imp eQ.mpr eQ.mpr)) _,(S8 (l.foldl eJ []) Em).nodup_iff.mpr a,λx=>(S8 (l.foldl eJ []) Em).mem_iff.trans ((b x).trans (S0 PH))⟩
abbrev eY:=Nat×Y9
noncomputable def ni(l:List eY):Nat:=l.foldr (λv m=>v.1|||m) 0
theorem An:∀{l:List eY},(ni l).testBit b=true↔∃v∈l,v.1.testBit b=true:=by
 intro n;induction n with
 |nil=>exact⟨λh=>VC ((Rl b).symm.trans h) PC,λo=>am (o) λv h _=>VC h PH⟩
 |cons v l ih=>show(v.1|||ni l).testBit b=true↔_;simp only[Ub,UP,ih];exact⟨λh=>h.elim (λh=>(aK v (.head _) h)) λp=>am (p) λu m h=>(aK u (.tail _ m) h),λi=>am i λu m h=>(P0.mp m).imp (λe:u=v=>sB e h) λm=>(aK u m h)⟩
def be(l:List eY):eY:=(ni l,if(ni l).testBit 12 then[] else rY (l.flatMap (·.2)))
noncomputable def wT(s:Nat):Str:=if s=0 then "!" else if s=1 then "?" else "*"
def cQ(x:eY×Nat):Str:=xV x.1.1++"{" ++gW "," x.1.2++"}" ++wT x.2
noncomputable def Nw(r:Bool):Str:=bif r then "r" else ""
def cK(es:List (eY×Nat))(ro:Bool):Str:=Nw ro++"[" ++gW " " (es.map cQ)++"]"
noncomputable def G9:W9:=[1,2,4,8,16,32,128,256,896,112,12,1025,2048,8191,0]
def wd(i:Nat):Nat:=(G9[i]?).getD 0
def cH(x:eY×Nat):eY:=if x.2=1 then be [x.1,(1,[])] else x.1
abbrev nZ:=List (eY×Nat)
noncomputable def gH:nZ->nZ
 |[]=>[]
 |x::r=>if x.2=2 then(be (((x::r).take (ak ((x::r).map (·.2)))).map cH),2)::(x::r).drop (ak ((x::r).map (·.2)))
  else(if x.2=1/\0∈r.map (·.2) then(cH x,0) else x)::gH r
structure Vs where
 v:eY
 e:nZ
 k:List eY
noncomputable def val:Tm->Vs
 |.nil=>⟨(0,[]),[],[]⟩
 |.cons a r=>⟨(0,[]),(val a).e++(val r).e,(val a).v::(val r).k⟩
 |.leaf i=>⟨(wd i,[]),[],[]⟩
 |.uni l=>⟨be (val l).k,[],[]⟩
 |.int l=>⟨((val l).k.foldl (λm v=>m&&&v.1) 8191,[]),[],[]⟩
 |.arr t=>⟨(0,[cK [((val t).v,2)] false]),[((val t).v,2)],[]⟩
 |.tup l=>⟨(0,[cK (gH (val l).e) false]),gH (val l).e,[]⟩
 |.ro t=>⟨if gw t then(0,[cK (val t).e true]) else(val t).v,(val t).e,[]⟩
 |.el s t=>⟨(0,[]),if s=2 then(val t).e else[((val t).v,s)],[]⟩
noncomputable def hJ:List (Row×Nat):=[(.key "undefined",1),(.key "null",2),(.bool 0 0,4),(.bool 1 0,8),(.num 0,16),(.num (-1),32),(.str "a",128),(.str "",256),(.key "string",896),(.key "number",112),(.key "void",1025),(.key "object",2048),(.key "unknown",8191)]
def d4(r:Row):Nat:=(hJ.lookup r).getD 0
def sK(f:Nat->eY)(row:Row):eY:=(iY row).elim (d4 row,[]) λx=>(0,[cK (x.1.map λy=>(f y.1,y.2)) (decide (x.2=1))])
noncomputable def Kz(R:List Row):Nat->Nat->eY
 |0,_=>(0,[])
 |n+1,t=>be ((ae R t).map λp=>(R[p]?).elim (0,[]) (sK (Kz R n)))
def rd(R:List Row)(t:Nat):eY:=Kz R (t+1) t
def pt(R:List Row)(p:Nat):eY:=(R[p]?).elim (0,[]) (sK (rd R))
structure VS(R:List Row)(v:eY)(S:bC):Prop where
 bits:∀b,v.1.testBit b=true↔∃p,S p/\(pt R p).1.testBit b=true
 txt:∀s,s∈v.2↔v.1.testBit 12=false/\∃p,S p/\s∈(pt R p).2
 srt:Jm v.2
 nd:v.2.Nodup
theorem JP(r:Row):(d4 r).testBit b=true->b<13:=λh=>by
 have z:d4 r<2^13:=by
  unfold d4;cases e:hJ.lookup r with
  |none=>decide
  |some m=>exact eA (Uz.mp e) λI o q _=>(by decide+kernel:∀x∈hJ,x.2<8192) (r,m) (rR q (PK _ (.head _)))
 exact SZ λk=>PC ((UF (P5 z (U9 dD k))).symm.trans h)
end
section
variable{R:List Row}{v u:eY}{S S':bC}{t p b:Nat}
mutual
theorem VS.uniq(h:VS R v S)(h':VS R u S):v=u:=by have e:v.1=u.1:=TM λi=>Bool.eq_iff_iff.mpr ((h.bits i).trans (h'.bits i).symm);exact US e (rJ h.srt h'.srt h.nd h'.nd λs=>(h.txt s).trans ((e▸Ul:_↔_).trans (h'.txt s).symm))
noncomputable def VK(R:List Row):List bC->List eY->Prop
 |[],vs=>vs=[]
 |S::Ss,vs=>∃v r,vs=v::r/\VS R v S/\VK R Ss r
noncomputable def EV(R:List Row):ja->nZ->Prop
 |[],vs=>vs=[]
 |x::es,vs=>∃v r,vs=(v,x.2)::r/\VS R v x.1/\EV R es r
theorem DU:∀{Ss:List bC}{vs:List eY},VK R Ss vs->(∀v∈vs,∃S∈Ss,VS R v S)/\∀S∈Ss,∃v∈vs,VS R v S:=by
 intro l;induction l with
 |nil=>intro vs h;subst h;exact⟨bP,bP⟩
 |cons S Ss ih=>intro vs h;obtain⟨v,r,rfl,a,h⟩:=h;obtain⟨C,d⟩:=ih h;exact⟨eg (aK S (.head _) a) (λv q=>am (C v q) λS m k=>(aK S (.tail _ m) k)),eg (aK v (.head _) a) (λv q=>let ⟨S,m,k⟩:=d v q;(aK S (.tail _ m) k))⟩
theorem nG(h:VK R Ss vs):VS R (be vs) (bB Ss):=by
 have x:=DU h;have C:=x.1;have d:=x.2;have A:∀b,(ni vs).testBit b=true↔∃p,bB Ss p/\(pt R p).1.testBit b=true:=λb=>An.trans
  ⟨λr=>am r λv q z=>am (C v q) λS m k=>let ⟨p,w,y⟩:=(k.bits b).mp z;(aK p ⟨S,m,w⟩ y),λ⟨p,⟨S,m,w⟩,y⟩=>am (d S m) λv q k=>(aK v q ((k.bits b).mpr ⟨p,w,y⟩))⟩;unfold be;refine⟨A,λs=>?_,?_,?_⟩
 ·by_cases z:(ni vs).testBit 12=true
  ·exact rR (PW z) ⟨λh=>VC h PH,λh=>VC (h.1.symm.trans z) PC⟩
  refine rR (PV z) ?_;have c:=Qv.mpr z;have I:∀v∈vs,v.1.testBit 12=false:=λv q=>Qv.mpr λk=>z (An.mpr (aK v q k));refine((eP _).2.2 s).trans (Rs.trans ⟨λB=>am B λv q hs=>?_,λ⟨_,p,⟨S,m,w⟩,hs⟩=>?_⟩)
  ·refine am (C v q) λS m k=>?_;have G:=(k.txt s).mp hs;exact am (G.2) λp w o=>⟨c,p,⟨S,m,w⟩,o⟩
  exact am (d S m) λv q i=>⟨v,q,(i.txt s).mpr ⟨I v q,p,w,hs⟩⟩
 ·by_cases z:(ni vs).testBit 12=true
  ·exact rR (PW z) .nil
  exact rR (PV z) ((eP _).1)
 by_cases z:(ni vs).testBit 12=true
 ·exact rR (PW z) .nil
 exact rR (PV z) ((eP _).2.1)
theorem lg(h:∀q,S q↔q=p)(C:v=pt R p)(c:Jm v.2)(nd:v.2.Nodup)(i:v.2≠[]->v.1.testBit 12=false):VS R v S:=by refine⟨λb=>⟨λz=>(aK p ((h p).mpr rfl) (sB C z)),λo=>by refine PO (o) λq a=>?_;have d:=a.1;have z:=a.2;exact rR C (sB ((h q).mp d) z)⟩,λs=>⟨λz=>⟨i λe=>by rw[e] at z;exact VC z PH,p,(h p).mpr rfl,sB C z⟩,λr=>by refine PO (r.2) λq a=>?_;have d:=a.1;have z:=a.2;exact rR C (sB ((h q).mp d) z)⟩,c,nd⟩
theorem ke(h:∀q,¬S q):VS R (0,[]) S:=⟨λb=>⟨λz=>VC ((Rl b).symm.trans z) PC,λo=>by refine PO (o) λp C=>?_;have w:=C.1;exact VC w (h p)⟩,λs=>⟨λz=>VC z PH,λr=>by refine PO (r.2) λp C=>?_;have w:=C.1;exact VC w (h p)⟩,.nil,.nil⟩
theorem cn(e:R[p]?=some r)(h:iY r=none):pt R p=(d4 r,[]):=by unfold pt;refine rR e (?_:sK _ r=_);unfold sK;refine rR h ?_;rfl
theorem yk(w:WF R)(e:bZ[k]?=some (.key s)):pt R k=(d4 (.key s),[]):=cn (w.get e) rfl
theorem xq:(pt R p).1.testBit b=true->b<13:=by
 unfold pt;cases R[p]? with
 |none=>exactλh=>VC ((Rl b).symm.trans h) PC
 |some r=>
  show(sK (rd R) r).1.testBit b=true->_;unfold sK;cases iY r with
  |none=>exact JP r
  |some x=>exactλh=>VC ((Rl b).symm.trans h) PC
theorem Fj(w:WF R)(e:R[p]?=some r)(n:bn r≠0):(pt R p).2=[]/\((pt R p).1.testBit b=true->(pt R (bn r)).1.testBit b=true):=by
 have q:∀{r k s},bZ[k]?=some (.key s)->R[p]?=some r->iY r=none->d4 (.key s)|||d4 r=d4 (.key s)->(pt R p).2=[]/\((pt R p).1.testBit b=true->(pt R k).1.testBit b=true):=λM e el m=>by refine rR (cn e el) (rR (yk w M) (sB m ?_));exact⟨rfl,λh=>by simp only[Ub,h,UG]⟩
 induction r with
 |str s=>exact(show s="a" \/s="" from(w.fit _ _ e)).elim (λh=>by subst h;exact q (k:=6) rfl e rfl (by decide+kernel)) λh=>by subst h;exact q (k:=6) rfl e rfl (by decide+kernel)
 |num s=>exact(show s=0\/s= -1 from(w.fit _ _ e)).elim (λh=>by subst h;exact q (k:=7) rfl e rfl (by decide+kernel)) λh=>by subst h;exact q (k:=7) rfl e rfl (by decide+kernel)
 |_=>exact VC rfl n
theorem pd(w:WF R)(h:VS R v S):VS R v (aC R S):=by
 have B:S 1->∀b,b<13->(pt R 1).1.testBit b=true:=λa b i=>by exact(Qe ((yk w (k:=1) (s:="unknown") rfl:pt R 1=(8191,[]))))▸((by decide:∀b,b<13->(8191:Nat).testBit b=true) b i)
 have key:∀p,S p-> ¬aC R S p->(pt R p).2≠[]/\S 1\/(pt R p).2=[]/\∀b,(pt R p).1.testBit b=true->∃q,aC R S q/\(pt R q).1.testBit b=true:=λp x f=>by
  by_cases Q:S 1
  ·by_cases e:(pt R p).2=[]
   ·exact .inr ⟨e,λb z=>(aK 1 ((j1 w).mpr Q) (B Q b (xq z)))⟩
   exact .inl ⟨e,Q⟩
  have st: ¬rH R S p:=λst=>f ⟨λz=>VC z Q,x,st⟩;refine .inr (Rf λj=>st λr e n z=>j ?_);have u:=λb=>Fj (b:=b) w e n;exact⟨(u 0).1,λb y=>(aK (bn r) ((uV w (gn n) Q).mpr z) ((u b).2 y))⟩
 have A:∀b,v.1.testBit b=true↔∃p,aC R S p/\(pt R p).1.testBit b=true:=λb=>(h.bits b).trans ⟨λC=>am C λp x z=>by
  by_cases f:aC R S p
  ·exact(aK p f z)
  exact(key p x f).elim (λk=>(aK 1 ((j1 w).mpr k.2) (B k.2 b (xq z)))) λk=>k.2 b z,λT=>am T λp x z=>(aK p x.2.1 z)⟩;refine⟨A,λs=>(h.txt s).trans (Rx λz=>⟨λo=>am o λp x y=>?_,λg=>am g λp x y=>(aK p x.2.1 y)⟩),h.srt,h.nd⟩;by_cases f:aC R S p
 ·exact⟨p,f,y⟩
 refine(key p x f).elim (λk=>?_) λk=>VC (sB k.1 y) PH;exact VC (((h.bits 12).mpr (aK 1 k.2 (B k.2 12 dD))).symm.trans z) λe=>PC e.symm
theorem zV(w:WF R)(h:VS R v x.1):VS R (cH (v,x.2)) (late R x):=by
 delta cH late;by_cases e:x.2=1
 ·refine rR (PW e) (rR (PW e) ?_);have z:=nG (R:=R) (Ss:=[x.1,λp=>p=4]) ⟨_,_,rfl,h,_,_,rfl,(lg (λq=>Ul) (yk w (k:=4) (s:="undefined") rfl).symm .nil .nil λh=>VC rfl h:VS R (1,[]) λp=>p=4),rfl⟩;have e:bB [x.1,λp=>p=4]=λp=>x.1 p\/p=4:=funext λp=>QR ⟨λo=>by exact am (o) λS m k=>(P0.mp m).imp (λe:S=x.1=>sB e k) λm=>by cases PG.mp m;exact k,λh=>h.elim (λk=>⟨_,.head _,k⟩) λk=>⟨_,.tail _ (.head _),k⟩⟩;exact pd w (sB e z)
 exact rR (PV e) (rR (PV e) h)
theorem vG:∀{es:ja}{ev:nZ},EV R es ev->ev.map (·.2)=es.map (·.2):=by
 intro l;induction l with
 |nil=>intro _ h;subst h;rfl
 |cons x es ih=>intro _ h;obtain⟨v,r,rfl,_,h⟩:=h;exact PR (x.2:: ·) (ih h)
theorem JU:∀{es w:ja}{ev Q:nZ},EV R es ev->EV R w Q->EV R (es++w) (ev++Q):=by
 intro l;induction l with
 |nil=>intro _ _ _ h h';subst h;exact h'
 |cons x es ih=>intro _ _ _ h h';obtain⟨v,r,rfl,a,h⟩:=h;exact⟨v,_,rfl,a,ih h h'⟩
theorem vj:∀{es:ja}{ev:nZ}(k:Nat),EV R es ev->EV R (es.drop k) (ev.drop k)/\EV R (es.take k) (ev.take k)
 |[],_,_,h=>by exact(Qe (h))▸(rR Vi (rR Ut (rR Vi (rR Ut ⟨rfl,rfl⟩))))
 |x::es,_,0,h=>⟨h,rfl⟩
 |x::es,_,k+1,h=>by obtain⟨v,r,rfl,a,h⟩:=h;exact⟨(vj k h).1,v,_,rfl,a,(vj k h).2⟩
theorem AA(w:WF R):∀{es:ja}{ev:nZ},EV R es ev->VK R (es.map (late R)) (ev.map cH)
 |[],_,h=>by subst h;exact rfl
 |x::es,_,h=>by obtain⟨v,r,rfl,a,h⟩:=h;exact⟨_,_,rfl,zV w a,AA w h⟩
theorem xE(w:WF R):∀{es:ja}{ev:nZ},EV R es ev->EV R (nrm R es) (gH ev)
 |[],_,h=>by subst h;exact rfl
 |x::es,_,h=>by
  have C:=h;obtain⟨v,r,rfl,a,h⟩:=h;by_cases e:x.2=2
  ·refine rR (show nrm R (x::es)=_ from PW e) (rR (show gH ((v,x.2)::r)=_ from PW e) (rR (vG C) ?_));exact⟨_,_,rfl,pd w (nG (AA w (vj _ C).2)),(vj _ C).1⟩
  refine rR (show nrm R (x::es)=_ from PV e) (rR (show gH ((v,x.2)::r)=_ from PV e) (rR (vG h) ?_));by_cases z:x.2=1/\0∈es.map (·.2)
  ·refine rR (PW z) (rR (PW z) ?_);have l:=zV w a;simp only[show late R x=iw R x.1 from PW z.1] at l;exact⟨_,_,rfl,l,xE w h⟩
  refine rR (PV z) (rR (PV z) ?_);exact⟨v,_,rfl,a,xE w h⟩
theorem Hy:VS R (pt R p) λq=>q=p:=by
 have h:(pt R p).2=[]\/∃s,pt R p=(0,[s]):=by
  unfold pt;cases R[p]? with
  |none=>exact .inl rfl
  |some r=>
   show(sK (rd R) r).2=[]\/∃s,sK (rd R) r=(0,[s]);unfold sK;cases iY r with
   |none=>exact .inl rfl
   |some x=>exact .inr ⟨_,rfl⟩
 rcases h with e|⟨s,e⟩
 ·exact lg (λq=>Ul) rfl (e▸ .nil) (e▸ .nil) λh=>VC e h
 exact lg (λq=>Ul) rfl (e▸RZ ..) (e▸QK.mpr ⟨PH,.nil⟩) λa=>e▸Rl 12
theorem xO(w:WF R):∀{n m t:Nat},t<n->t<m->Kz R n t=Kz R m t
 |n+1,m+1,t,hn,hm=>by
  refine PR be (QM λp y=>?_);have pt:p<=t:=by
   rcases bG w t with rfl|⟨l,e,c⟩|⟨a,b,e⟩
   ·exact nomatch cq▸y
   ·exact P2 ((w.fit t _ e).2.2 p (c▸y)).1
   exact(Qe (PG.mp (e▸y)))▸(PD _)
  cases o:R[p]? with
  |none=>rfl
  |some row=>
   show sK _ row=sK _ row;have step:∀{e},e<p->Kz R n e=Kz R m e:=λh=>xO w (P5 h (ID pt (QL hn))) (P5 h (ID pt (QL hm)));induction row with
   |arr e ro=>exact PR (λv=>((0,[cK [(v,2)] (decide (ro=1))]):eY)) (step (w.fit _ _ o).1)
   |tup l ro=>exact PR (λv=>((0,[cK v (decide (ro=1))]):eY)) (QM λx i=>PR (·,x.2) (step ((w.fit _ _ o).1 x i).1))
   |_=>rfl
theorem kH(w:WF R):VS R (rd R t) (PS R t):=by
 have e:rd R t=be ((ae R t).map (pt R)):=by
  refine PR be (QM λp y=>?_);have pt:p<=t:=by
   rcases bG w t with rfl|⟨l,e,c⟩|⟨a,b,e⟩
   ·exact nomatch cq▸y
   ·exact P2 ((w.fit t _ e).2.2 p (c▸y)).1
   exact(Qe (PG.mp (e▸y)))▸(PD _)
  show _=(R[p]?).elim _ _;cases n:R[p]? with
  |none=>rfl
  |some row=>
   show sK _ row=sK _ row;induction row with
   |arr e ro=>exact PR (λv=>((0,[cK [(v,2)] (decide (ro=1))]):eY)) ((λh=>xO w (P5 h pt) (QF _)) (w.fit _ _ n).1)
   |tup l ro=>exact PR (λv=>((0,[cK v (decide (ro=1))]):eY)) (QM λx i=>PR (·,x.2) ((λh=>xO w (P5 h pt) (QF _)) ((w.fit _ _ n).1 x i).1))
   |_=>rfl
 refine rR e ?_;have C:∀{L:W9},VK R (L.map λp q=>q=p) (L.map (pt R)):=λ{L}=>by
  induction L with
  |nil=>exact rfl
  |cons p L ih=>exact⟨_,_,rfl,Hy,ih⟩
 have b:bB ((ae R t).map λp q=>q=p)=PS R t:=funext λq=>QR ⟨λo=>by refine am (o) λS m k=>am (P1.mp m) λp y M=>?_;subst M;exact(show q=p from k)▸y,λh=>⟨_,P1.mpr ⟨q,h,rfl⟩,rfl⟩⟩;exact b▸nG C
end
end
end
structure Gd(R:List Row)(T:Tm):Prop where
 v:VS R (val T).v ((aT R T).s 0)
 e:EV R (aT R T).e (val T).e
structure Ty(R:List Row)(T:Tm)(t:Nat):Prop where
 ok:ei R t
 eq:∀R',d1 R R'->PS R' t=(aT R' T).s 0
 li:gw T=true->∃row x,R[t]?=some row/\iY row=some x
 gd:∀R',d1 R R'->Gd R' T
theorem Ty.ext(h:Ty R T t)(e:d1 R R'):Ty R' T t:=⟨h.ok.ext e.pre,λG c=>h.eq G (e.trans c),λz=>eA (h.li z) λr x a b=>(rS r x (d5 e.pre a) b),λG c=>h.gd G (e.trans c)⟩
theorem Ty.rd(w:WF R)(h:Ty R T t):rd R t=(val T).v:=(kH w).uniq (rR (h.eq R (.refl w)) ((h.gd R (.refl w)).v))
theorem HQ(w:WF R):∀{l:V9}{ev:nZ},EV R (bl R l) ev->ev=l.map λy=>(Internal.rd R y.1,y.2)
 |[],_,h=>h
 |x::l,_,h=>by obtain⟨v,r,rfl,a,h⟩:=h;refine rR (HQ w h) (rR (a.uniq (kH w)) ?_);rfl
theorem A9(h:jc i=[r]):wd i=d4 r/\iY r=none:=by
 by_cases z:i<15
 ·exact(by decide+kernel:∀i,i<15->(jc i).length=1->∀r∈jc i,wd i=d4 r/\iY r=none) i z (by refine(Qe (h))▸?_;rfl) r (h▸ .head _)
 unfold jc at h;rw[SL (QU z)] at h;exact nomatch h
theorem vq{t:Type}(l:List t)(i j:Nat):(l.drop (min i l.length)).take (min j l.length-min i l.length)=(l.take j).drop i:=by
 simp only[List.drop_take];by_cases h:i<=l.length
 ·refine rR (Tc h) ?_;by_cases h':j<=l.length
  ·exact rR (Tc h') rfl
  have h':=Nat.le_of_not_le h';rw[Nat.min_eq_right h',R5 (PI Rr),R5 (ID (PI Rr) (UW h' i))]
 have h:=Nat.le_of_not_le h;exact rR (Nat.min_eq_right h) (rR R9 (rR (SG h) (rR Ut (rR Ut rfl))))
section
variable{T:nc}{C:cj}{σ:Hp}{Q:KV}{K:KS}{ρ:Env}{a:Addr}{vs:Z7}
theorem Ox{i j:Nat}(e:σ a=some (.list vs))(r:vs.length<=lim)(q:alloc (.list ((vs.take j).drop i)) σ Q):nX T (.ref a) (.int i) (.int j) Q .none σ:=by unfold nX;refine(Et vs _ (.list e) (.cut (lo:=some i) (hi:=some j) rfl rfl) r ?_);show alloc (.list ((vs.drop (clipAt vs.length i)).take (clipAt vs.length j-clipAt vs.length i))) σ Q;rw[UH,UH,vq];exact q
theorem D1{j:Nat}(e:σ a=some (.list vs))(r:vs.length<=lim)(q:alloc (.list (vs.take j)) σ Q):nX T (.ref a) .none (.int j) Q .none σ:=by unfold nX;refine(Et vs _ (.list e) (.cut (lo:=none) (hi:=some j) rfl rfl) r ?_);show alloc (.list ((vs.drop 0).take (clipAt vs.length j-0))) σ Q;have:=vq vs 0 j;rw[Nat.zero_min] at this;rw[UH,this];exact q
theorem Hr{i:Nat}(e:σ a=some (.list vs))(r:vs.length<=lim)(q:alloc (.list (vs.drop i)) σ Q):nX T (.ref a) (.int i) .none Q .none σ:=by unfold nX;refine(Et vs _ (.list e) (.cut (lo:=some i) (hi:=none) rfl rfl) r ?_);show alloc (.list ((vs.drop (clipAt vs.length i)).take (vs.length-clipAt vs.length i))) σ Q;have:=vq vs i vs.length;rw[Nat.min_self,SC] at this;rw[UH,this];exact q
theorem jY{p:pa}(g:n<=lim)(I:Nat->Env->Hp->Prop)(t:I 0 ρ σ)(step:∀k,k<n->∀(R:Env->Hp->Prop),(∀ρ σ,I (k+1) ρ σ->R ρ σ)->∀ρ σ,I k ρ σ->nK p (nV k) ρ λc=>b c σ (tW R K))(U:∀ρ σ,I n ρ σ->K .next ρ σ):ii p b ρ K (.rng n) σ:=
 gO (f:=nV) (xs:=List.range n) (.rng g) (λs ρ σ=>I s.length ρ σ) t (λs x r e R N ρ σ i=>⟨.rng g,by
  have hs:s.length<(List.range n).length:=by refine rR e (rR PQ ?_);exact RY (Ra _)
  have h:x=s.length:=by
   have A:(List.range n)[s.length]?=some x:=by rw[e,List.getElem?_append_right (PD _),Sn];rfl
   rw[P4 hs,T6] at A;exact(Qh A).symm
  exact rR h (step _ (sB (QT (n:=n)) hs) R (λρ σ i=>N ρ σ (rR PQ i)) ρ σ i)⟩) λρ σ i=>⟨.rng g,U ρ σ (sB (QT (n:=n)) i)⟩
theorem eZ{Q:KV}(e:σ a=some (.list vs))(r:vs.length<=lim)(h:vs.length=n)(q:Q (.rng n) σ):FI .len (LX (Bu T C .nil) ρ (FI .range Q)) [.ref a] σ:=by subst h;exact kX (.lenL e r (kX (.range r q)))
theorem Hm{ms:W9}:In σ (nV m) (.tup (ms.map nV)) (decide (m∈ms)):=
 sB (QJ.mpr ⟨λh=>am (P1.mp h) λx i e=>sB (iH e) i,λh=>P1.mpr ⟨m,h,rfl⟩⟩:decide (V.int m∈ms.map nV)=decide (m∈ms)) (.tup (all_map λb=>rfl))
end
noncomputable def eC(ms:W9):W9->Nat
 |[]=>0
 |m::r=>if eC ms r=0 then(if m∈ms then 1 else 0) else eC ms r+1
theorem AG{m:Nat}:∀{s:W9},eC ms (s++[m])=if m∈ms then s.length+1 else eC ms s:=by
 intro l;induction l with
 |nil=>exact rfl
 |cons x s ih=>
  show(if eC ms (s++[m])=0 then _ else eC ms (s++[m])+1)=_;refine rR ih ?_;by_cases h:m∈ms
  ·refine rR (PW h) (rR (PW h) ?_);rfl
  refine rR (PV h) (rR (PV h) ?_);rfl
theorem take_snoc{t d:Type}{l:List t}(h:k<l.length){f:t->d}:(l.take (k+1)).map f=(l.take k).map f++[f l[k]]:=by simp only[Rn h,PU];rfl
theorem cZ{t d:Type}{l:List t}(h:k<l.length){f:t->d}:(l.map f)[k]?=some (f l[k]):=(QS ..).trans (PR _ (P4 h))
section
variable{c:cR}{g:bM}{b d:Nat}{X:Y8}{σ:Hp}{Q:KV}{ns:Z9}{T:List Row}
section
variable{t:Nat}{l a:Addr}{r:Row}{R:List Row}{es:V9}
theorem H.app{u:Type}{f:u->V}{xs:List u}{x:u}(h:H c g b t ((a,.list (xs.map f))::X) σ):H c g b t ((a,.list ((xs++[x]).map f))::X) (upd σ a (.list (xs.map f++[f x]))):=
 rR (PU (f:=f) (l₁:=xs) (l₂:=[x])) h.head
theorem yD{ms:W9}(e:σ a=some (.list (es.map pV)))(s:es.length<=100)(q:Q (.int ((eC ms (es.map (·.2)):Nat)-1)) σ):ad (aa l ns) (d+1) 279 [.ref a,.tup (ms.map nV)] σ Q:=by
 refine ah (F:=oK) rfl rfl (kr (eZ e (cO rfl (ID s dD):(es.map pV).length<=lim) (PL _) ?_));refine jY (ID s dD) (λk ρ u=>u=σ/\∃w,ρ=[some (.ref a),some (.tup (ms.map nV)),some (.int ((eC ms ((es.take k).map (·.2)):Nat)-1)),w]) ⟨rfl,none,rfl⟩ (λk h R N ρ u i=>?_) λρ u i=>?_
 ·obtain⟨rfl,w,rfl⟩:=i;simp only[take_snoc h (f:=(·.2)),AG,PL,SH (P2 h)] at N;refine cm e (P5 h (ID s dD)) (cZ h) (bx rfl (oY Hm (az (λm=>N _ _ ⟨rfl,some (nV k),?_⟩) λm=>N _ _ ⟨rfl,some (nV k),?_⟩)))
  ·exact rR (PW m) (PR (λi=>[some (V.ref a),some (V.tup (ms.map nV)),some (V.int i),some (nV k)]) (Uc k 1).symm)
  refine rR (PV m) ?_;rfl
 obtain⟨rfl,w,rfl⟩:=i;exact rR SC q
noncomputable def eG(R:List Row)(n k:Nat)(x:bC×Nat):bC×Nat:=if x.2=1/\k+1<n then(iw R x.1,0) else x
noncomputable def gF(R:List Row)(n:Nat):Nat->ja->ja
 |_,[]=>[]
 |k,x::r=>eG R n k x::gF R n (k+1) r
theorem A2{x:bC×Nat}:∀{s:ja}{k:Nat},gF R n k (s++[x])=gF R n k s++[eG R n (k+s.length) x]:=by
 intro m;induction m with
 |nil=>intro _;exact rfl
 |cons y s ih=>intro k;exact PR (eG R n k y:: ·) (ih.trans (by rw[Ur];rfl))
theorem pf{k n:Nat}:((k:Int)<(n:Nat)-1)↔k+1<n:=by omega
theorem Of{b n k:Nat}(h:k<n):b+(n-k)=b+(n-(k+1))+1:=by rw[QH,<-Nat.sub_sub,Q5 (Nat.le_sub_of_add_le' h)]
theorem cu(e:R<+:T)(h:∀x∈es,ei R x.1):bl T es=bl R es:=QM λx i=>by exact rR (dT e (h x i).1) rfl
theorem nW(e:R<+:T)(w:WF R){i:Nat}(h:ei R i):aC T (λp=>PS T i p\/p=4)=iw R (PS R i):=rR (dT e h.1) (dL e λp v=>v.elim (oS w h) λz=>rR z (P5 dD w.len))
theorem bh{u:Type}{P:u->Prop}{l:List u}{x:u}(h:∀y∈l,P y)(i:P x):∀y∈l++[x],P y:=λy B=>(P3.mp B).elim (h y) λz=>PG.mp z▸i
theorem I6(ck:ai c)(h:H c g (b+es.length) t X σ)(w:WF g.rows)(m:(a,.list (es.map pV))∈X)(ok:∀x∈es,ei g.rows x.1/\(x.2=1->(ae g.rows x.1).length<63))(hl:es.length<=100)(q:∀T out o ma,d1 g.rows T->(∀x∈out,ei T x.1)->out.length=es.length->bl T out=gF g.rows (eC [0] (es.map (·.2))) 0 (bl g.rows es)->H c (g.wr T) b t ((o,.list (out.map pV))::X) ma->Q (.ref o) ma):
  ad (aa l ns) (d+5) 286 [.ref c.tab,.ref a] σ Q:=by
 have G:es.length<=lim:=ID hl dD
 refine ah (F:=ip) rfl rfl (yD (ms:=[0]) (h.loc m) hl λo ho=>?_)
 generalize eC [0] (es.map (·.2))=n at*
 refine eZ ((h.new (o:=.list []) ho).loc (.tail _ m)) (cO rfl G) (PL _) (jY G (λk ρ τ=>∃C out,(∃j M B,ρ=[some (.ref c.tab),some (.ref a),some (.int ((n:Nat)-1)),some (.ref o),j,M,B])/\d1 g.rows C/\(∀x∈out,ei C x.1)/\(out.length=k/\bl C out=gF g.rows n 0 ((bl g.rows es).take k))/\H c (g.wr C) (b+(es.length-k)) t ((o,.list (out.map pV))::X) τ)
  (OC g.rows ([]) (M7 _ _ _ rfl) (.refl w) nofun ⟨rfl,rfl⟩ (h.new (o:=.list []) ho)) (λk I R hR ρ τ i=>?_) λρ τ i=>?_)
 ·refine KN i λC out VH A o1 WH e=>k6 VH λj M B N=>rR N ?_;obtain⟨Y,eq⟩:=WH;simp only[Of I] at e;refine dQ (ok es[k] (Rq I)) λU hp=>?_;have YS:k<(bl g.rows es).length:=P5 I (PI (PL _).symm);have ge:(bl g.rows es)[k]=(PS g.rows es[k].1,es[k].2):=List.getElem_map _;have Za:∀{v u mk},d1 C v->ei v u->(PS v u,mk)=eG g.rows n k (PS g.rows es[k].1,es[k].2)->∀{p}{j M B},H c (g.wr v) (b+(es.length-(k+1))) t ((o,.list (out.map pV))::X) p->
    R [some (.ref c.tab),some (.ref a),some (.int ((n:Nat)-1)),some (.ref o),j,M,B] (upd p o (.list (out.map pV++[pV (u,mk)]))):=λ{v u mk} J o2 z p j M B h3=>
   hR _ _ (OC v (out++[(u,mk)]) (M7 _ _ _ rfl) (A.trans J) (bh (λy hy=>(o1 y hy).ext J.pre) o2) ⟨by refine rR PQ (rR Y ?_);rfl,by simp only[Rn YS,A2,ge,<-eq,SH (P2 YS),Rh,<-z,<-cu J.pre o1];exact PU⟩ h3.app);have gx:=cZ (f:=pV) I;have ol:(out.map pV).length<=lim:=ID (PI ((PL _).trans Y)) (ID (P2 I) G);generalize es[k]=x at*;have s: ¬(x.2=1/\k+1<n)->∀{j M B},R [some (.ref c.tab),some (.ref a),some (.int ((n:Nat)-1)),some (.ref o),j,M,B] (upd τ o (.list (out.map pV++[pV x]))):=λz j M B=>Za (.refl A.wf) (U.ext A.pre) (rR (dT A.pre U.1) ((PV z).symm)) (e.dec (Qt _));refine cm (e.loc (.tail _ m)) (P5 I (ID hl dD)) gx ⟨_,_,rfl,ag (b:=1) ?_⟩;refine az (λm1=>cw .lt (az (λmn=>?_) λmn=>?_)) λm1=>az (λz=>VC z m1) λø=>?_
  ·have mn:=pf.mp mn;refine bk (.append (e.loc (.head _))) (Aq ck e A.wf (U.ext A.pre) (fX A.pre U.1▸hp m1) λv u p J o2 z h3=>kJ (.append (h3.loc (.head _)) ol (wExpr rfl (Za (mk:=0) J o2 ?_ h3))));simp only[z,nW A.pre w U];exact(PW ⟨m1,mn⟩).symm
  ·exact bk (.append (e.loc (.head _))) (kJ (.append (e.loc (.head _)) ol (wExpr rfl (s λz=>mn (pf.mpr z.2)))))
  exact bk (.append (e.loc (.head _))) (kJ (.append (e.loc (.head _)) ol (wExpr rfl (s λz=>m1 z.1))))
 ·refine KN i λC out XH A o1 YH e=>k6 XH λj M B L=>?_;subst L;obtain⟨Y,eq⟩:=YH;simp only[Sn] at e;simp only[R5 (show(bl g.rows es).length<=es.length from PI (PL _))] at eq;exact q C out o τ A o1 Y eq e
end
noncomputable def aR:W9->Nat
 |[]=>0
 |m::r=>if m=2 then 0 else aR r+1
theorem BP:∀{s:W9},aR s<=s.length:=by
 intro l;induction l with
 |nil=>exact PD _
 |cons m r ih=>
  unfold aR;split
  ·exact PY _
  exact Qn ih
theorem yI:∀{s:W9},aR (s++[m])=if aR s<s.length then aR s else if m=2 then s.length else s.length+1:=by
 intro l;induction l with
 |nil=>exact rfl
 |cons x s ih=>
  show(if x=2 then 0 else aR (s++[m])+1)=_;by_cases h:x=2
  ·refine rR (PW h) (rR (PW (by unfold aR;rw[PW h];exact Ra _)) ?_);unfold aR;exact rR (PW h) rfl
  rw[PV h,ih,show aR (x::s)=aR s+1 from PV h,RI];by_cases k:aR s<s.length
  ·exact rR (PW k) (rR (PW (SD k)) rfl)
  rw[PV k,PV (λz=>k (Ri z))];split<;>rfl
def i7(R:List Row)(L:Nat)(es:ja):ja:=
 if aR (es.map (·.2))<es.length/\aR (es.map (·.2))+1<L then
  es.take (aR (es.map (·.2)))++((aC R (bB (((es.take L).drop (aR (es.map (·.2)))).map (late R))),2)::es.drop L)
 else es
theorem jq{t:Type}[DecidableEq t]:∀{l r:List t},l.Nodup->(∀x∈l,x∈r)->l.length<=r.length
 |[],_,_,_=>PY _
 |a::l,r,f,h=>by have f:=QK.mp f;have:=jq (r:=r.erase a) f.2 λx i=>(List.mem_erase_of_ne (λe=>f.1 (by exact(e)▸i))).mpr (h x (.tail _ i));simp only[List.length_erase_of_mem (h a (.head _))] at this;exact ID (Qn this) (PI (Q5 (List.length_pos_of_mem (h a (.head _)))))
theorem mK(w:WF R){t:Nat}{U:W9}(h:∀p,PS R t p->p∈U):(ae R t).length<=U.length:=jq (w.ndp t) h
section
variable{t:Nat}{l a:Addr}{r:Row}{R:List Row}{es:V9}
theorem H.keep(h:H c g b t (p::(Y++X)) σ):H c g b t (p::X) σ:=h.sub ((S4 Y X).cons_cons p)
theorem Af{u e:Type}{f:u->List e}{l:List u}{x:u}(h:x∈l):(f x).length<=(l.flatMap f).length:=by
 induction l with
 |nil=>exact VC h PH
 |cons y l ih=>
  refine rR QE (rR PQ ?_);rcases P0.mp h with rfl|h
  ·exact PM ..
  exact ID (ih h) (Qp ..)
theorem BG{u e:Type}{f:u->List e}{l r:List u}(h:l.Sublist r):(l.flatMap f).length<=(r.flatMap f).length:=by
 induction h with
 |slnil=>exact PD _
 |cons a h k=>simp only[QE,PQ];exact ID k (Qp ..)
 |cons_cons a h k=>simp only[QE,QE,PQ,PQ];exact P8 k _
theorem oN(w:WF T){u i:Nat}(h:PS T u=iw R (PS R i)):(ae T u).length<=(4::ae R i).length:=mK w λp v=>((RT h p).mp v:aC R (λp=>PS R i p\/p=4) p).2.1.elim (.tail _) λe=>sB e (.head _)
theorem jR{u:Type}{f:u->bC}{l:List u}:bB (l.map f) p↔∃i∈l,f i p:=
 ⟨λo=>by exact am (o) λS j h=>am (P1.mp j) λi hi e=>(aK i hi (e▸h)),λk=>am k λi hi h=>⟨_,P1.mpr (aK i hi rfl),h⟩⟩
theorem Fp(w:WF R)(o:ei R i)(h:late R (PS R i,m) p):p<R.length:=by
 unfold late at h;split at h
 ·exact h.2.1.elim (oS w o) λe=>rR e (P5 dD w.len)
 exact oS w o h
def lw(R:List Row)(x:Nat×Nat):W9:=if x.2=1 then 4::ae R x.1 else ae R x.1
noncomputable def fI(f k:Nat):Int:=if f<k then(f:Nat) else-1
theorem Jb(ck:ai c)(h:H c g (b+(es.length+1)) t X σ)(w:WF g.rows)(m:(a,.list (es.map pV))∈X)(ok:∀x∈es,ei g.rows x.1)(hl:es.length<=100){L:Nat}(hz:(es.flatMap (lw g.rows)).length<64)(q:∀T out o Y ma,d1 g.rows T->(∀x∈out,ei T x.1)->out.length<=es.length->bl T out=i7 g.rows L (bl g.rows es)->(o,.list (out.map pV))∈Y++X->H c (g.wr T) b t (Y++X) ma->Q (.ref o) ma):
  ad (aa l ns) (d+5) 293 [.ref c.tab,.ref a,.int ((L:Nat)-1)] σ Q:=by
 have J:es.length<=lim:=ID hl dD
 have M:(es.map pV).length<=lim:=cO rfl J
 refine ah (F:=qz) rfl rfl (kr (eZ (h.loc m) M (PL _) ?_))
 refine jY J (λk ρ τ=>∀Z:Prop,(∀w1,τ=σ->ρ=[some (.ref c.tab),some (.ref a),some (.int ((L:Nat)-1)),some (.int (fI (aR ((es.take k).map (·.2))) k)),w1,none,none,none]->Z)->Z)
  (λZ z=>z none rfl rfl) (λk hk R U ρ τ i=>i _ λw1 A G=>?_) λρ τ i=>i _ λw1 A G=>?_
 ·subst A G;rw[take_snoc hk (f:=(·.2)),yI,((PL _).trans (SH (P2 hk)):((es.take k).map (·.2)).length=k)] at U;have gx:=cZ (f:=pV) hk;generalize aR ((es.take k).map (·.2))=f at*;generalize es[k]=x at*;by_cases I:f<k
  ·rw[PW I,show fI f (k+1)=fI f k from(PW (RX I)).trans (PW I).symm] at U;exact cw .lt (rR (Qb (show¬fI f k<0 from by delta fI;rw[PW I];exact Su.mpr (Rb _))) (af (af (U _ _ λZ z=>z (some (nV k)) rfl rfl))))
  rw[PV I] at U;have A:fI f k= -1:=PV I;refine rR A (cw .lt (aq (cm (h.loc m) (P5 hk (ID hl dD)) gx (bx rfl (ag (b:=2) (az (λm2=>?_) λm2=>?_))))))
  ·rw[PW m2,show fI k (k+1)=(k:Nat) from PW (QF k)] at U;exact U _ _ λZ z=>z (some (nV k)) rfl rfl
  rw[PV m2,show fI (k+1) (k+1)= -1 from PV (RN _)] at U;exact U _ _ λZ z=>z (some (nV k)) rfl rfl
 ·subst A G;rw[SC];have hm:(bl g.rows es).map (·.2)=es.map (·.2):=(QA ..);have ZS:(bl g.rows es).length=es.length:=PL _;have keep: ¬(aR (es.map (·.2))<es.length/\aR (es.map (·.2))+1<L)->Q (.ref a) τ:=λn=>
   q g.rows es a [] τ (.refl w) ok (PD _) (by delta i7;exact rR hm (rR ZS (rR (PV n) rfl))) m (h.dec (PM _ _));have pu:aR (es.map (·.2))<=es.length:=sB (PL (as:=es) (·.2)) BP;have hq:aR (es.map (·.2))<es.length/\aR (es.map (·.2))+1<L->i7 g.rows L (bl g.rows es)=bl g.rows (es.take (aR (es.map (·.2))))++((aC g.rows (bB ((bl g.rows ((es.take L).drop (aR (es.map (·.2))))).map (late g.rows))),2)::bl g.rows (es.drop L)):=λz=>by delta i7 bl at*;rw[hm,ZS,PW z];simp only[R7,Sv]
  generalize aR (es.map (·.2))=f at*;by_cases I:f<es.length
  ·refine rR (show fI f es.length=(f:Nat) from PW I) (cw .lt (af (cw .le (az (λn=>keep λz=>?_) λn=>?_))))
   ·exact VC (pf.mpr z.2) (Su.mpr n)
   have hL:=pf.mp (VA.mp n);specialize hq ⟨I,hL⟩;refineλo ho=>da (.add ?_);have A:=(h.new (o:=.list []) ho).loc (.tail _ m);rw[Vr];have Wu:((es.map pV).take L).drop f=((es.take L).drop f).map pV:=by exact sB R7 (sB Sv rfl)
   refine Ox (i:=f) (j:=L) A M λs hs=>?_;rw[Wu];have h2:=((h.new (o:=.list []) ho).new (o:=.list (((es.take L).drop f).map pV)) hs).perm (.swap ..);have sub:((es.take L).drop f).Sublist es:=(List.drop_sublist ..).trans (List.take_sublist ..);have Xu:((es.take L).drop f).length<=es.length:=sub.length_le;have Wc:∀x∈(es.take L).drop f,x∈es:=λx v=>sub.subset v;have rk:=BG (f:=lw g.rows) sub;clear Wu sub;generalize (es.take L).drop f=sl at*;refine gO (f:=pV) (.list (h2.loc (.tail _ (.head _)))) (λs1 ρ τ=>∀Z:Prop,(∀B hs w0 w1 w2,d1 g.rows B->(∀x∈hs,ei B x)->hs.map (PS B)=(bl g.rows s1).map (late g.rows)->(hs.flatMap (ae B)).length<=(s1.flatMap (lw g.rows)).length->
     H c (g.wr B) (b+(1+(sl.length-s1.length))) t ((o,.list (hs.map nV))::(s,.list (sl.map pV))::X) τ->ρ=[some (.ref c.tab),some (.ref a),some (.int ((L:Nat)-1)),some (nV f),w0,some (.ref o),w1,w2]->Z)->Z)
    (λZ z=>z g.rows [] _ _ _ (.refl w) nofun rfl (PD _) (h2.dec (P8 (ID (P8 Xu 1) (PI (RP ..))) b)) rfl) (λs1 x r' ex R U ρ τ i=>i _ λB hs w0 w1 w2 A o1 eq bg N er=>?_) λρ τ i=>i _ λB hs w0 w1 w2 A o1 eq bg N er=>?_
   ·refine rR er ⟨.list (N.loc (.tail _ (.head _))),_,_,rfl,bk (.append (N.loc (.head _))) (ag (b:=1) ?_)⟩;have v:x∈es:=Wc x (rR ex (PK _ (.head _)));have ox:=ok x v;have Zt:s1.length<sl.length:=by rw[ex,PQ];exact RY (Ra _)
    rw[show b+(1+(sl.length-s1.length))=b+(1+(sl.length-(s1.length+1)))+1 from(QH ..).symm.trans ((Of Zt).trans (PR (· +1) (QH ..)))] at N;have VT:(hs.map nV).length<=lim:=ID (PI ((PL _).trans ((PL (PS B)).symm.trans ((PR List.length eq).trans ((PL _).trans (PL _)))))) (ID (P2 Zt) (ID Xu J));have Za:∀{C u},d1 B C->ei C u->PS C u=late g.rows (PS g.rows x.1,x.2)->(ae C u).length<=(lw g.rows x).length->∀{Yu},H c (g.wr C) (b+(1+(sl.length-(s1.length+1)))) t ((o,.list (hs.map nV))::(s,.list (sl.map pV))::X) Yu->
      R [some (.ref c.tab),some (.ref a),some (.int ((L:Nat)-1)),some (nV f),w0,some (.ref o),some (nV x.1),some (nV x.2)] (upd Yu o (.list (hs.map nV++[nV u]))):=λ{C u} G o2 z hp Yu h4=>
     U _ _ λZ zz=>zz C (hs++[u]) _ _ _ (A.trans G) (bh (λy e=>(o1 y e).ext G.pre) o2) (by
      delta bl at*;refine rR PU (rR PU (rR PU (sB eq ?_)));exact congr (PR HAppend.hAppend (QM λy e=>dT G.pre (o1 y e).1)) (PR (λy=>[y]) z)) (by
      rw[Qx,Qx,PQ,PQ,Rj,Rj];exact Qu (ID (PI (PR List.length (PR List.flatten (QM λy e=>fX G.pre (o1 y e).1)))) bg) hp) (PQ (as:=s1) (bs:=[x])▸h4.app) rfl;refine az (λm1=>Aq ck N A.wf (ox.ext A.pre) (fX A.pre ox.1▸Ri (sB (PW m1:lw g.rows x=_) (PJ (Af (f:=lw g.rows) v) hz:(lw g.rows x).length<64):(4::ae g.rows x.1).length<64)) λC u Yu G o2 z h4=>kJ (.append (h4.loc (.head _)) VT (wExpr rfl (Za G o2 ?_ ?_ h4)))) λm1=>kJ (.append (N.loc (.head _)) VT (wExpr rfl (Za (.refl A.wf) (ox.ext A.pre) ?_ ?_ (N.dec (Qt _)))))
    ·refine rR z (rR (nW A.pre w ox) ?_);exact(PW m1).symm
    ·rw[show lw g.rows x=_ from PW m1];exact oN G.wf (z.trans (nW A.pre w ox))
    ·exact rR (dT A.pre ox.1) ((PV m1).symm)
    rw[fX A.pre ox.1,show lw g.rows x=_ from PV m1];exact PD _
   refine rR er ⟨.list (N.loc (.tail _ (.head _))),?_⟩;have hu:∀x∈es,ei B x.1:=λx v=>(ok x v).ext A.pre;have he:∀{l:V9},(∀x∈l,x∈es)->bl B l=bl g.rows l:=λhl=>cu A.pre λx v=>ok x (hl x v);have m3:(a,.list (es.map pV))∈(o,.list (hs.map nV))::(s,.list (sl.map pV))::X:=.tail _ (.tail _ m);refine D1 (j:=f) (N.loc m3) M λp1 x0=>sB R7 ?_;have h4:=N.new (o:=.list ((es.take f).map pV)) x0;rw[Sn] at h4;refine mD ck h4 A.wf (.inr ⟨o,rfl,.tail _ (.head _)⟩) o1 (PJ (ID bg rk) hz) λC u ab G o2 z h5 p2 ZH=>da (.addl ((h5.new (o:=.list ([(u,2)].map pV)) ZH).loc (.tail _ (.head _))) ((h5.new (o:=.list ([(u,2)].map pV)) ZH).loc (.head _)) (ID (PX (ID (PI (PL _)) (ID (Vf ..) pu)) 1) (ID (Qn hl) dD)) λp3 H0=>?_);rw[<-PU];have h7:=(h5.new (o:=.list ([(u,2)].map pV)) ZH).new (o:=.list ((es.take f++[(u,2)]).map pV)) H0;refine da (.add ?_);rw[Vr];refine Hr (i:=L) (h7.loc (.tail _ (.tail _ (.tail _ m3)))) M λp4 DI=>sB Sv ?_;have Yp:(es.take f++[(u,2)]).length+(es.drop L).length<=es.length:=by rw[PQ,SH pu,Rr];exact ID (P8 (S6 (P2 hL) _) _) (PI (TR I))
   refine da (.addl ((h7.new (o:=.list ((es.drop L).map pV)) DI).loc (.tail _ (.head _))) ((h7.new (o:=.list ((es.drop L).map pV)) DI).loc (.head _)) (by rw[PL,PL];exact ID Yp J) λp5 V0=>?_);refine sB PU ?_;have h9:=(h7.new (o:=.list ((es.drop L).map pV)) DI).new (o:=.list ((es.take f++[(u,2)]++es.drop L).map pV)) V0;refine q C _ p5 [_] _ (A.trans G) (λx v=>?_) (rR PQ Yp) ?_ (.head _) (h9.keep (Y:=[_,_,_,_,_,_]))
   ·rcases P3.mp v with v|v
    ·exact bh (P:=λx:Nat×Nat=>ei C x.1) (λy e=>(hu y (QP e)).ext G.pre) o2 x v
    exact(hu x (QQ v)).ext G.pre
   rw[hq,<-he λx=>QP,<-he λx=>QQ,<-cu G.pre λx v=>hu x (QP v),<-cu G.pre λx v=>hu x (QQ v)];have e3:PS C u=aC g.rows (bB ((bl g.rows sl).map (late g.rows))):=z.trans (by rw[show(λp=>∃i∈hs,PS B i p)=bB ((bl g.rows sl).map (late g.rows)) from funext λp=>QR (jR.symm.trans (by rw[eq]))];refine dL A.pre λp hp=>am (jR.mp hp) λx v k=>am (P1.mp v) λy e VI=>?_;subst VI;exact Fp w (ok y (Wc y e)) k);rw[<-e3];delta bl;rw[PU,PU,Qo];rfl
  rw[show fI f es.length= -1 from PV I];exact cw .lt (aq (aq (keep λz=>I z.1)))
end
end
theorem Ad{u:Type}{a b:u}{l r:List u}(h:a=b)(t:l=r):a::l=b::r:=sB h (sB t rfl)
theorem KR{t:Type}{p q:Prop}[Decidable p][Decidable q]{a b:t}(h:p↔q):(if p then a else b)=if q then a else b:=by
 by_cases k:p
 ·exact rR (PW k) (rR (PW (h.mp k)) rfl)
 rw[PV k,PV λz=>k (h.mpr z)]
theorem AB{ms:W9}:∀{s:W9},(∀m∈s,m∉ms)->eC ms s=0:=by
 intro l;induction l with
 |nil=>intro _;exact rfl
 |cons m s ih=>intro h;unfold eC;exact rR (ih λx i=>h x (.tail _ i)) (rR (PW rfl) (rR (PV (h m (.head _))) rfl))
theorem DV{ms:W9}:∀{s:W9},0<eC ms s↔∃m∈s,m∈ms:=by
 intro l;induction l with
 |nil=>exact⟨λh=>VC h (RN 0),λC=>am C λ_ h _=>VC h PH⟩
 |cons m s ih=>
  unfold eC;by_cases h:eC ms s=0
  ·refine rR (PW h) ?_;by_cases k:m∈ms
   ·exact rR (PW k) ⟨λb=>(aK m (.head _) k),λb=>SS⟩
   refine rR (PV k) ⟨λz=>VC z (RN 0),λa=>am a λx i z=>?_⟩;rcases P0.mp i with rfl|i
   ·exact VC z k
   exact VC (aK x i z) (λz=>VC h (So (ih.mpr z)): ¬∃m∈s,m∈ms)
  refine rR (PV h) ?_;have⟨x,i,z⟩:=(ih).mp (Sa h);exact⟨λb=>(aK x (.tail _ i) z),λb=>Ra _⟩
theorem Ck:∀{s:W9},(∀m∈s,m<=2)->eC [2,1] s=ak s:=by
 intro l;induction l with
 |nil=>intro _;exact rfl
 |cons m s ih=>
  intro h;unfold eC ak;refine rR (ih λx i=>h x (.tail _ i)) ?_;have z:=h m (.head _);cases m with
  |zero=>rfl
  |succ m=>cases m with
   |zero=>rfl
   |succ m=>cases m with
    |zero=>rfl
    |succ m=>exact VC (Rg (Rg z)) (Sj m)
section
variable{R:List Row}
mutual
theorem AR{x:bC×Nat}:late R (eG R n k x)=late R x:=by
 unfold eG;by_cases z:x.2=1/\k+1<n
 ·exact rR (PW z) ((PW z.1).symm)
 exact rR (PV z) rfl
theorem A8{n:Nat}:∀{es:ja}{k:Nat},(gF R n k es).map (late R)=es.map (late R):=by
 intro l;induction l with
 |nil=>intro _;exact rfl
 |cons x r ih=>intro k;exact Ad AR ih
theorem Bp{n j:Nat}:∀{es:ja}{k:Nat},(gF R n k es).take j=gF R n k (es.take j):=by
 induction j with
 |zero=>exactλ{_ _}=>rfl
 |succ j l=>exactλ{es k}=>by induction es with
  |nil=>rfl
  |cons x r=>exact PR (eG R n k x:: ·) l
theorem tD{n:Nat}:∀{es:ja}{k:Nat},(∀x∈es,x.2≠1)->gF R n k es=es:=by
 intro l;induction l with
 |nil=>intro _ _;exact rfl
 |cons x r ih=>intro k h;exact Ad (PV λz=>h x (.head _) z.1) (ih λy B=>h y (.tail _ B))
theorem sX:∀{es:ja},∀x∈es.drop (ak (es.map (·.2))),x.2=0:=by
 intro l;induction l with
 |nil=>intro x h;exact VC h PH
 |cons y r k=>
  intro x h;replace h:=(QG)▸h;unfold ak at h;by_cases z:ak (r.map (·.2))=0
  ·have k:=k;replace k:=(z)▸k;replace h:=(PW z)▸h;by_cases e:y.2=0
   ·replace h:=(PW e)▸h;rcases P0.mp h with rfl|h
    ·exact e
    exact k x h
   replace h:=(PV e)▸h;exact k x h
  replace h:=(PV z)▸h;exact k x h
theorem tw{n:Nat}:∀{es:ja}{k j:Nat},(∀x∈es.drop j,x.2≠1)->(gF R n k es).drop j=es.drop j
 |es,k,0,h=>tD h
 |[],_,j+1,_=>rfl
 |x::r,k,j+1,h=>tw (es:=r) h
theorem qB{n:Nat}:∀{es:ja}{k:Nat},gF R (n+1) (k+1) es=gF R n k es:=by
 intro l;induction l with
 |nil=>intro _;exact rfl
 |cons x r ih=>intro k;exact Ad (KR (Rx λa=>Nat.add_lt_add_iff_right)) ih
theorem my:∀{es:ja}{k:Nat},gF R 0 k es=es:=by
 intro l;induction l with
 |nil=>intro _;exact rfl
 |cons x r ih=>intro k;exact Ad (PV λz=>VC z.2 (Sf _)) ih
theorem yA{n:Nat}:∀{es:ja}{k:Nat},aR ((gF R n k es).map (·.2))=aR (es.map (·.2)):=by
 intro l;induction l with
 |nil=>intro _;exact rfl
 |cons x r ih=>
  intro k;have e:∀y:bC×Nat,aR ((y::r).map (·.2))=if y.2=2 then 0 else aR (r.map (·.2))+1:=λa=>rfl;refine((λy=>sB ih rfl:∀y:bC×Nat,aR ((y::gF R n (k+1) r).map (·.2))=if y.2=2 then 0 else aR (r.map (·.2))+1) (eG R n k x)).trans (Eq.trans ?_ (e x).symm);unfold eG;by_cases z:x.2=1/\k+1<n
  ·refine rR (PW z) (rR z.1 ?_);rfl
  exact rR (PV z) rfl
theorem BS{n:Nat}:∀{es:ja}{k:Nat},(gF R n k es).length=es.length:=by
 intro l;induction l with
 |nil=>intro _;exact rfl
 |cons x r ih=>intro k;exact PR (· +1) ih
theorem A1{N:ja}(w:a.2≠2)(r:e<=1):i7 R (if L=0 then e else L+1) (a::N)=a::i7 R L N:=by
 have i:aR ((a::N).map (·.2))=aR (N.map (·.2))+1:=PV w;unfold i7;refine rR i ?_;by_cases z:L=0
 ·rw[z];exact rR (PW rfl) (rR (PV λh=>VC (P5 h.2 r) (TF.mpr (Qp 1 _))) (rR (PV λh=>VC h.2 (Sf _)) rfl))
 rw[PV z];by_cases k:aR (N.map (·.2))<N.length/\aR (N.map (·.2))+1<L
 ·refine rR (PW k) (rR (PW ⟨SD k.1,SD k.2⟩) ?_);rfl
 exact rR (PV k) (rR (PV λh=>k ⟨Ri h.1,Ri h.2⟩) rfl)
theorem En(w:WF R):∀{es:ja},(∀x∈es,aC R x.1=x.1)->i7 R (ak (es.map (·.2))) (gF R (eC [0] (es.map (·.2))) 0 es)=nrm R es
 |[],_=>rfl
 |x::r,h=>by
  by_cases G:x.2=2
  ·unfold i7;refine rR yA (rR BS ?_);have q:aR ((x::r).map (·.2))=0:=PW G;have J:ak ((x::r).map (·.2))=if ak (r.map (·.2))=0 then 1 else ak (r.map (·.2))+1:=by rw[show ak ((x::r).map (·.2))=if ak (r.map (·.2))=0 then(if x.2=0 then 0 else 1) else ak (r.map (·.2))+1 from rfl,G];rfl
   have nd:∀y∈(x::r).drop (ak ((x::r).map (·.2))),y.2≠1:=λy B e=>VC ((sX y B).symm.trans e) dD;refine rR q (rR (show nrm R (x::r)=_ from PW G) ?_);by_cases z:ak (r.map (·.2))=0
   ·rw[PW z] at J;rw[J,PV (λk=>VC k.2 (RN _))];rw[J] at nd;have el:late R x=x.1:=PV (λe=>VC (G.symm.trans e) dD:x.2≠1);have A:aC R (bB [late R x])=x.1:=by refine rR el (rR (show bB [x.1]=x.1 from funext λp=>QR ⟨λo=>am (o) λS t k=>sB (PG.mp t) k,λk=>⟨_,.head _,k⟩⟩) ?_);exact h x (.head _)
    show eG R _ 0 x::gF R _ 1 r=(aC R (bB [late R x]),2)::r;exact rR A (sB G (rR (show eG R _ 0 x=x from PV λk=>(λe=>VC (G.symm.trans e) dD:x.2≠1) k.1) (rR (tD (es:=r) (k:=1) nd) rfl)))
   rw[PV z] at J;have v:0+1<ak ((x::r).map (·.2)):=by rw[J];exact SD (Sa z)
   rw[PW ⟨Ra _,v⟩,List.take_zero,Tx,List.nil_append,Bp,A8,tw nd]
  have f:∀{k},gF R (eC [0] ((x::r).map (·.2))) (k+1) r=gF R (eC [0] (r.map (·.2))) k r/\(0+1<eC [0] ((x::r).map (·.2))↔0∈r.map (·.2)):=λ{k}=>by
   have v:0<eC [0] (r.map (·.2))↔0∈r.map (·.2):=DV.trans ⟨λs=>am (s) λm M z=>sB (PG.mp z) M,λz=>(aK 0 z (.head _))⟩;refine rR (show eC [0] ((x::r).map (·.2))=if eC [0] (r.map (·.2))=0 then(if x.2∈[0] then 1 else 0) else eC [0] (r.map (·.2))+1 from rfl) ?_;by_cases z:eC [0] (r.map (·.2))=0
   ·rw[PW z];by_cases e:x.2∈[0]
    ·refine rR (PW e) (rR qB (rR my (rR z (rR my ?_))));exact⟨rfl,λk=>VC k (RN _),λm=>VC m (λm=>VC z (So (v.mpr m)):0∉r.map (·.2))⟩
    rw[PV e,my,z,my];exact⟨rfl,λk=>VC k (Sf _),λm=>VC m (λm=>VC z (So (v.mpr m)):0∉r.map (·.2))⟩
   ·refine rR (PV z) (rR qB ?_);exact⟨rfl,λa=>v.mp (Sa z),λm=>SD (v.mpr m)⟩
  have U:eG R (eC [0] ((x::r).map (·.2))) 0 x=if x.2=1/\0∈r.map (·.2) then(iw R x.1,0) else x:=by
   unfold eG;by_cases k:x.2=1/\0∈r.map (·.2)
   ·exact rR (PW k) (rR (PW ⟨k.1,(f (k:=0)).2.mpr k.2⟩) rfl)
   rw[PV k,PV λz=>k ⟨z.1,(f (k:=0)).2.mp z.2⟩]
  have M:(eG R (eC [0] ((x::r).map (·.2))) 0 x).2≠2:=by
   unfold eG;split
   ·exactλz=>VC (show 0=2 from z) dD
   exact G
  refine rR (show nrm R (x::r)=_ from PV G) (sB U (sB (En w λy B=>h y (.tail _ B)) (sB ((f (k:=0)).1) ?_)));exact A1 M (by split<;>decide)
end
end
section
variable{R U:List Row}
theorem qi(w:WF R)(B:WF U):∀{es out:V9}{k:Nat},bl U out=gF R n k (bl R es)->(out.flatMap (lw U)).length<=(es.flatMap (lw R)).length
 |[],[],_,_=>PD _
 |[],_::_,_,e=>nomatch e
 |_::_,[],_,e=>nomatch e
 |x::es,y::out,k,e=>by
  refine rR QE (rR PQ (rR PQ ?_));have A:(PS U y.1,y.2)=eG R n k (PS R x.1,x.2):=(QB e).1;refine Qu ?_ (qi w B (QB e).2);unfold eG at A;refine(RA (x.2=1/\k+1<n)).elim (λz=>?_) λz=>?_
  ·rw[PW z] at A;have G:=Sq A;exact rR (show lw U y=_ from PV λh=>VC (G.2.symm.trans h) dD) (rR (show lw R x=_ from PW z.1) (oN B G.1))
  rw[PV z] at A;have G:=Sq A;unfold lw;refine rR G.2 ?_;split
  ·exact Qn (mK B λp v=>((RT G.1 p).mp v:PS R x.1 p):(ae U y.1).length<=(ae R x.1).length)
  exact(mK B λp v=>((RT G.1 p).mp v:PS R x.1 p):(ae U y.1).length<=(ae R x.1).length)
def Bd(R:List Row)(S:bC):=∀p,S p->p<R.length
theorem mW(w:WF R){S:bC}(h:Bd R S):Bd R λp=>S p\/p=4:=λp v=>v.elim (h p) λe=>rR e (P5 dD w.len)
theorem zP(w:WF R){x:bC×Nat}(h:Bd R x.1):Bd R (late R x):=λp v=>by
 unfold late at v;split at v
 ·exact mW w h p v.2.1
 exact h p v
theorem xt(e:R<+:U)(w:WF R){x:bC×Nat}(h:Bd R x.1):late U x=late R x:=by delta late iw;exact rR (dL e (mW w h)) rfl
theorem B8(e:R<+:U)(w:WF R)(h:∀x∈es,Bd R x.1):i7 U L es=i7 R L es:=by have M:∀f,∀x∈(es.take L).drop f,x∈es:=λf x i=>QP (QQ i);unfold i7;rw[(λf=>QM λx i=>xt e w (h x (M f x i)):∀f,((es.take L).drop f).map (late U)=((es.take L).drop f).map (late R)),dL e λp v=>am (jR.mp v) λx i k=>zP w (h x (M _ x i)) p k]
theorem zL(w:WF R){n:Nat}:∀{es:ja}{k:Nat},(∀x∈es,Bd R x.1)->∀x∈gF R n k es,Bd R x.1
 |[],_,_,_,h=>VC h PH
 |y::r,k,h,x,i=>by
  rcases P0.mp i with rfl|i
  ·unfold eG;split
   ·exactλp v=>mW w (h y (.head _)) p v.2.1
   exact h y (.head _)
  exact zL w (λz hz=>h z (.tail _ hz)) x i
theorem mX{P:bC×Nat->Prop}(h:∀x∈es,P (PS R x.1,x.2)):∀x∈bl R es,P x:=λx i=>by refine am (P1.mp i) λy B Q=>?_;subst Q;exact h y B
theorem CT:∀{es:ja},(∀x∈es,x.2<=2)->∀x∈nrm R es,x.2<=2:=by
 intro l;induction l with
 |nil=>intro _ _ h;exact VC h PH
 |cons y r ih=>
  intro h x i;unfold nrm at i;split at i
  ·rcases P0.mp i with rfl|i
   ·exact PD _
   exact h x (QQ i)
  rcases P0.mp i with rfl|i
  ·split
   ·exact PY _
   exact h y (.head _)
  exact ih (λz hz=>h z (.tail _ hz)) x i
section
variable{c:cR}{g:bM}{b t d:Nat}{X:Y8}{σ:Hp}{Q:KV}{l a:Addr}{ns:Z9}{r:Row}{es:V9}
theorem Gs(ck:ai c)(h:H c g (b+(es.length+(es.length+2))) t X σ)(w:WF g.rows)(sq:Seq X pv (es.map pV))(ok:∀x∈es,ei g.rows x.1/\x.2<=2)(hl:es.length<64)(hr:ro<=1)(hz:(es.flatMap (lw g.rows)).length<64)(q:∀U u row l v,d1 g.rows U->ei U u->U[u]?=some row->iY row=some (l,ro)->bl U l=nrm g.rows (bl g.rows es)->H c (g.wr U) b t X v->Q (nV u) v):
  ad (aa l ns) (d+6) 299 [.ref c.tab,pv,nV ro] σ Q:=by
 have y:es.length<=100:=ID (P2 hl) dD
 have hm:(es.map pV).length<=lim:=cO rfl (ID y dD)
 refine ah (F:=lY) rfl rfl (wG (f:=pV) pV (sq.items h) (ID y dD) (λx ø R hR=>⟨_,_,rfl,hR⟩) λa0 ha=>?_)
 have G:=h.new (o:=.list (es.map pV)) ha
 have A:∀m∈es.map (·.2),m<=2:=λm hm=>am (P1.mp hm) λx j e=>e▸(ok x j).2
 refine yD (ms:=[3]) (G.loc (.head _)) y (cw .lt ?_)
 refine rR (AB λm hm k=>VC (PG.mp k▸A m hm) dD) (aq (yD (ms:=[2,1]) (G.loc (.head _)) y ?_))
 refine I6 ck (b:=b+(es.length+2)) ((QH b _ es.length).trans (PR (b+ ·) (RP _ _))▸G) w (.head _) (λx j=>⟨(ok x j).1,λm1=>Ri (PJ (sB (PW m1:lw g.rows x=_) (Af (f:=lw g.rows) j):(4::ae g.rows x.1).length<=_) hz)⟩) y λR1 out o Wa x1 Zu T WT h2=>rR (Ck A) ?_
 refine Jb ck (b:=b+1) (L:=ak (es.map (·.2))) (h2.dec (by simp only[T,QH b 1,RP 1];exact PD _)) x1.wf (.head _) Zu (T▸y) (PJ (qi w x1.wf WT) hz) λB s o2 Y ab M N I W0 m2 h3=>?_
 have C:bl B s=nrm g.rows (bl g.rows es):=by have hn:=En w (es:=bl g.rows es) (mX λx j=>w.norm (ok x j).1);rw[show(bl g.rows es).map (·.2)=es.map (·.2) from(QA ..)] at hn;refine sB hn (rR W0 (rR WT ?_));exact B8 x1.pre w (zL w (mX λx j p hp=>oS w (ok x j).1 hp))
 have Y0:∀x∈s,x.2<=2:=λx j=>CT (R:=g.rows) (mX λx j=>(ok x j).2) (PS B x.1,x.2) (sB C (P1.mpr ⟨x,j,rfl⟩))
 have J:=h3.loc m2
 have ol:(s.map pV).length<=lim:=cO rfl (ID (P2 (PJ (ID I (PI T)) hl:s.length<64)) dD)
 have f:(∀e,s≠[(e,2)])->xZ B B.length (.tup s ro):=λn=>⟨λx j=>⟨(N x j).1,(N x j).2,Y0 x j⟩,hr,n,(PJ (ID I (PI T)) hl:s.length<64)⟩
 have q2:∀n,∀v,H c (g.wr (dR B (.tup s ro))) b t (Y++(o,.list (out.map pV))::(a0,.list (es.map pV))::X) v->Q (nV (vz B (.tup s ro))) v:=λn v h4=>q _ _ _ _ v ((x1.trans M).trans ⟨cx,M.wf.put (f n)⟩) (lp M.wf (f n) rfl) dz rfl ((cu cx N).trans C) h4.drop.tail.tail
 by_cases G:s.length=1
 ·obtain⟨x,rfl⟩:=List.length_eq_one_iff.mp G;refine kX (.lenL J ol (ag (a:=1) (b:=1) (aq (cm (i:=0) J dD rfl (bx rfl (ag (b:=2) (az (λm=>?_) λm=>?_)))))))
  ·obtain⟨u,m'⟩:=x;cases m;refine cm (i:=0) J dD rfl (bx rfl (zi ck h3 λv h4=>?_));have f:xZ B B.length (.arr u ro):=⟨(N _ (.head _)).1,(N _ (.head _)).2,hr⟩;exact q _ _ _ _ v ((x1.trans M).trans ⟨cx,M.wf.put f⟩) (lp M.wf f rfl) dz rfl ((cu cx N).trans C) h4.drop.tail.tail
  exact Bh (r:=.tup _ ro) ck h3 (xe _ _) (q2 λe z=>m (PR Prod.snd (QB z).1)) λQ z=>kX (.tuple J ol z)
 ·refine kX (.lenL J ol (ag (b:=1) (az (λh=>VC ((PL _).symm.trans h) G) λh=>az (λz=>VC z h) λø=>?_)));exact Bh (r:=.tup s ro) ck h3 (xe _ _) (q2 λe z=>G (PR List.length z)) λQ z=>kX (.tuple J ol z)
end
end
noncomputable def cW(g:bM):V9:=g.dr.map (·.2.2)
theorem qY{p:Nat×Nat}:∀{l:List (Addr×Addr×Nat×Nat)},(aJ (pV p) (sF l)).isSome=true↔p∈l.map (·.2.2):=by
 intro m;induction m with
 |nil=>exact⟨λh=>VC h PC,λh=>VC h PH⟩
 |cons x l ih=>
  show(if pV x.2.2=pV p then _ else aJ (pV p) (sF l)).isSome=true↔_;refine(RA (x.2.2=p)).elim (λe=>?_) λe=>?_
  ·refine rR (PW (PR pV e)) (rR QG (rR e ?_));exact⟨λa=>.head _,λa=>rfl⟩
  rw[PV λz=>e (Kv z),ih,QG];exact⟨.tail _,λh=>(P0.mp h).elim (λz=>VC z.symm e) id⟩
def CF(c:cR)(g:bM):Y8:=(cells c g).drop 5
theorem Gy{g:bM}:CF c {g with dr:=g.dr++[x]}=CF c g++[Lw x]:=by show _::_::_::_::_::_::_::_::_::((c.fr++c.rl.map _)++(g.dr++[x]).map Lw)=_;simp only[PU,<-Qo];rfl
theorem lS{d:Nat}{vs:Z7}{Q:KV}(z:T.cls f=some (some g))(q:∀a dx,a≠dx->σ a=none->σ dx=none->ad T d g (.ref a::vs) (upd (upd σ dx (.slot a)) a (.inst f dx [])) (zU (.ref a) Q)):ad T (d+1) f vs σ Q:=
 .ini z λa dx n C e=>q a dx n C e
theorem dU{n:Nat}(h:Nat.ble n 1000=true):n<=1000:=P6 h
theorem Od{r t d y n a b m:Nat}(e:y=d+1)(h:r+t+d+n+a+(b+1)<=m):r+t+y+n+a+b<=m:=by subst e;exact ID (PI ((PR (· +a+b) (Qy (r+t+d) 1 n)).trans ((PR (· +b) (Qy (r+t+d+n) 1 a)).trans (Qy (r+t+d+n+a) 1 b)))) h
theorem xx{u:Type}{t:u}{X A R:List u}:(X++(A++t::R)).Perm (t::(X++(A++R))):=by simp only[<-Qo,<-Qo];exact TH
theorem A3{u:Type}{p t d:u}{X A C:List u}:(p::t::d::(X++(A++C))).Perm (X++(A++t::d::(C++[p]))):=by refine .trans ?_ (xx.trans (xx.cons t)).symm;refine .trans ((Rw ..).trans ((Rw ..).cons t)) (.cons t (.cons d ?_));simp only[<-Qo,<-Qo,<-Qo];exact(List.perm_append_singleton p _).symm
theorem eR{a:Addr}:upd (upd σ a o) a o'=upd σ a o':=funext λx=>by unfold upd;split<;>rfl
section
variable{σ:Hp}{Q:KV}
section
variable{c:cR}{g:bM}{b t d:Nat}{X:Y8}{l a:Addr}{ns:Z9}
theorem Be{n at_:Nat}(e:σ a=some (.inst 141 dx []))(q:Q .none (upd σ a (.inst 141 dx (xd n at_)))):ad (aa l ns) (d+1) 131 [.ref a,nV n,nV at_,.tup [],.str ""] σ Q:=by have s:∀{σ:Hp}{o:O},upd σ a o a=some o:=PW rfl;refine ah (F:=oD) rfl rfl (fK e (dU rfl) rfl (fK s (dU rfl) rfl (fK s (dU rfl) rfl (fK s (dU rfl) rfl ?_))));refine rR eR (rR eR (rR eR ?_));exact q
theorem JS(k:ai c)(h:H c g (b+1) t X σ){n at_:Nat}(q:∀dr s,(dr=g.dr/\(n,at_)∈cW g)\/((n,at_)∉cW g/\∃a dx,dr=g.dr++[(a,dx,n,at_)])->H c {g with dr:=dr} b t X s->Q .none s):ad (aa l ns) (d+4) 750 [.ref c.n,nV n,nV at_,.tup []] σ Q:=by
 have T:aI (pV (n,at_)) (sF g.dr)=true:=P7.mpr ⟨rfl,all_map λv=>rfl⟩
 refine ah (F:=Dc) rfl rfl (aW h.c_n (k.nf g.deep).told rfl (DY (.dict h.c_told T) (cD (λm=>?_) λm=>?_)))
 ·have e:(n,at_)∉cW g:=λz=>by rw[show(aJ (V.tup [nV n,nV at_]) (sF g.dr)).isSome=true from qY.mpr z] at m;exact VC m PC
  have L:g.dr.length<=lim:=P2 (PJ (ID (Qp _ _) (ID (PM _ _) (PM _ _))) (h.lt));refine aW h.c_n (k.nf g.deep).told rfl (jT h.c_told T (ID (PI (PL _)) L) ?_);have r:=(h.hs.perm ((xx (A:=[_,_,_])).trans (.cons _ (xx (A:=[_,_,_]))))).head (o':=.dict (gJ (pV (n,at_)) (.int 1) (sF g.dr)));have U:=r.get (.tail _ (.tail _ (PK X (.tail _ (.tail _ (.tail _ (.tail _ (.tail _ (.tail _ (.tail _ (.tail _ (.tail _ (.head _)))))))))))));refine aW (r.get (.tail _ (.tail _ (PK X (.tail _ (.tail _ (.tail _ (.head _)))))))) (k.nf g.deep).diags rfl (eh U k.di_put rfl (ah (F:=oQ) rfl rfl (aW U k.di_rows rfl (bk (.append (r.get (.tail _ (.head _)))) (aW U k.di_file rfl (lS rfl λa dx ne w j=>?_))))));refine Be (dx:=dx) (n:=n) (at_:=at_) (PW rfl) ⟨rfl,?_⟩;refine kJ (.append ((((r.frame (o:=.slot a) j).new (o:=.inst 141 dx []) ((PV ne).trans w)).head (o':=.inst 141 dx (xd n at_))).get (.tail _ (.tail _ (.head _)))) (ID (PI (PL _)) L) (wExpr rfl (wExpr rfl (q (g.dr++[(a,dx,n,at_)]) _ (.inr ⟨e,a,dx,rfl⟩) ⟨?_,?_,h.bw⟩))))
  ·have i:=(((((r.frame (o:=.slot a) j).new (o:=.inst 141 dx []) ((PV ne).trans w)).head (o':=.inst 141 dx (xd n at_))).perm (.cons _ (.swap ..))).perm (.swap ..)).head (o':=.list (g.dr.map (λp=>V.ref p.1)++[.ref a]));have u:gJ (pV (n,at_)) (.int 1) (sF g.dr)=sF (g.dr++[(a,dx,n,at_)]):=
    (fU (Option.not_isSome_iff_eq_none.mp λz=>e (qY.mp z))).trans (PU (f:=λp:Addr×Addr×Nat×Nat=>(pV p.2.2,V.int 1)) (l₁:=g.dr) (l₂:=[(a,dx,n,at_)])).symm;show Holds (X++([_,_,_]++(c.told,.dict (sF (g.dr++[(a,dx,n,at_)])))::(c.drows,.list ((g.dr++[(a,dx,n,at_)]).map (λp=>V.ref p.1)))::CF c {g with dr:=g.dr++[(a,dx,n,at_)]})) _;exact rR Gy (sB u (rR PU (((i.perm (.swap ..)).perm (.cons _ (.swap ..))).perm A3)))
  exact Od (sB (PQ (as:=g.dr) (bs:=[(a,dx,n,at_)])) rfl) h.bnd
 ·have e:(n,at_)∈cW g:=qY.mp (sB (SI _) m);exact q g.dr σ (.inl ⟨rfl,e⟩) (h.dec (Qt _))
end
def NW(kind:Nat)(av:V)(e:Addr)(fl n:Nat):Y7:=[("kind",nV kind),("a",av),("kids",.ref e),("flags",nV fl),("at",nV n),("nid",nV n)]
structure At(X:Y8)(a:Addr)(kind:Nat)(av:V)(ks:List Addr)(fl n:Nat)(dx ka:Addr):Prop where
 nd:(a,.inst 38 dx (NW kind av ka fl n))∈X
 ks:(ka,.list (ks.map V.ref))∈X
theorem m8:∀{l:V9},(∃u,(n,u)∈l/\aJ (nV n) (jQ l)=some (nV u))\/((∀p∈l,p.1≠n)/\aJ (nV n) (jQ l)=none):=by
 intro m;induction m with
 |nil=>exact .inr ⟨bP,rfl⟩
 |cons x l ih=>
  have e:aJ (nV n) (jQ (x::l))=if nV x.1=nV n then some (nV x.2) else aJ (nV n) (jQ l):=rfl;by_cases h:x.1=n
  ·exact .inl ⟨x.2,sB h (.head _),e.trans (PW (PR nV h))⟩
  rw[PV λz=>h (iH z)] at e;exact rR e (ih.imp (λo=>PO (o) λu U=>⟨u,.tail _ U.1,U.2⟩) λq=>⟨λp v=>(P0.mp v).elim (λy=>y▸h) (q.1 p),q.2⟩)
theorem zZ:∀{l:List (Nat×Addr×Addr×Addr)},(l.map (·.1)).Nodup->(k,r,dx,C)∈l->aJ (nV k) (l.map λp=>(nV p.1,V.ref p.2.1))=some (.ref r)
 |x::l,e,h=>by
  show(if nV x.1=nV k then some (V.ref x.2.1) else _)=_;rcases P0.mp h with rfl|h
  ·exact PW rfl
  have e:=QK.mp e;exact rR (PV λz=>e.1 (P1.mpr (aK _ h ((iH z).symm)))) (zZ e.2 h)
section
variable{T:nc}{C:cj}{K:KS}{ρ:Env}
theorem Hc(h:σ x=some (.inst c dx fs))(i:aX n fs=some u)(w:T.attr c n=true)(q:e ρ σ (pE T (.ref x) n op u ρ K)):Av T n op e ρ K (.ref x) σ:=by unfold Av;exact(No x c dx fs u rfl h w i q)
theorem Cl(q:wy σ (Ho T x n ρ K) op (.int a) (.int b)):pE T x n op (.int a) ρ K (.int b) σ:=by unfold pE;exact .mk q
end
section
variable{c:cR}{g:bM}{b t d kind fl n:Nat}{X:Y8}{l a dx Y:Addr}{ns:Z9}{av:V}{ks:List Addr}
theorem yQ(h:H c g b t X σ)(at_:At X a kind av ks fl n dx Y)(q:Q (nV n) σ):kE (aa l ns) "nid" Q (.ref a) σ:=aW (h.loc at_.nd) rfl rfl q
theorem ca(h:H c g b t X σ)(at_:At X a kind av ks fl n dx Y)(q:Q (nV kind) σ):kE (aa l ns) "kind" Q (.ref a) σ:=aW (h.loc at_.nd) rfl rfl q
theorem gM(h:H c g b t X σ)(at_:At X a kind av ks fl n dx Y)(q:Q (.ref Y) σ):kE (aa l ns) "kids" Q (.ref a) σ:=aW (h.loc at_.nd) rfl rfl q
theorem Mm(k:ai c)(h:H c g b t X σ)(at_:At X a kind av ks fl n dx Y)(B:(n,u)∈g.types)(q:∀u,(n,u)∈g.types->Q (nV u) σ):ad (aa l ns) (d+2) 708 [.ref c.n,.ref a] σ Q:=by
 rcases m8 (n:=n) (l:=g.types) with ⟨i,f,e⟩|⟨f,e⟩
 ·refine ah (F:=fo) rfl rfl (ah (F:=gp) rfl rfl (yQ h at_ (aW h.c_n (k.nf g.deep).types rfl (oY (.dict h.c_types (P7.mpr ⟨rfl,all_map λj=>rfl⟩:aI (nV n) (jQ g.types)=true)) ?_))));exact rR e (aq (aW h.c_n (k.nf g.deep).types rfl (yQ h at_ (rM h.c_types (P7.mpr ⟨rfl,all_map λj=>rfl⟩:aI (nV n) (jQ g.types)=true) e (q i f)))))
 exact VC rfl (f _ B)
def Made(c:cR)(l:Addr)(ns:Z9)(d:Nat)(g:bM)(b t:Nat)(X:Y8)(m r a:Addr)(n:Nat)(Q:KV)(σ:Hp):Prop:=
 ∀e:KV,(∀q u o,q.deep=g.deep+1->(∀p∈q.types,p.1≠n)->H c q (b+1) t X o->(∀C,H c {q with deep:=g.deep,types:=q.types++[(n,u)]} b t X C->Q (nV u) C)->e (nV u) o)->ad (aa l ns) d m [.ref r,.ref c.n,.ref a] σ e
theorem II(o:ai c)(h:H c g b0 t X σ)(at_:At X a kind av ks fl n dx Y)(J:0<n)(A:(kind,r,dr,C)∈c.rl)(I:(aa l ns).meth C "made" =some m)(M:g.deep<60)(L:∀u,(n,u)∈g.types->Q (nV u) σ)(s:(∀p∈g.types,p.1≠n)->∀q,H c {g with deep:=g.deep+1} b0 t X q->Made c l ns d g b t X m r a n Q q):
  ad (aa l ns) (d+3) 708 [.ref c.n,.ref a] σ Q:=by
 have T:∀g:bM,aI (nV n) (jQ g.types)=true:=λg=>P7.mpr ⟨rfl,all_map λø=>rfl⟩
 have w:=o.nf g.deep
 refine ah (F:=fo) rfl rfl (ah (F:=gp) rfl rfl (yQ h at_ (aW h.c_n w.types rfl (oY (.dict h.c_types (T g)) ?_))))
 rcases m8 (n:=n) (l:=g.types) with ⟨u,y,e⟩|⟨y,e⟩
 ·exact(Qe (e))▸(aq (aW h.c_n w.types rfl (yQ h at_ (rM h.c_types (T g) e (L u y)))))
 ·refine rR e (af (ah (F:=kR) rfl rfl (aW h.c_n w.rules rfl (bk (.getD h.c_rules) (ca h at_ (kJ (.getN h.c_rules (P7.mpr ⟨rfl,all_map λø=>rfl⟩) ?_)))))));refine(Qe (zZ o.nd A))▸?_;have np:∀k,.inst 739 c.ndx (bQ "deep" (nV (k+1)) (c.nF k))=O.inst 739 c.ndx (c.nF (k+1)):=λk=>PR _ (o.np k (k+1));have len:∀k j,(bQ "deep" (nV j) (c.nF k)).length<=1000:=λk j=>rR (o.np k j) (ID (o.nf j).len dD);refine cw .is (af (Hc h.c_n w.deep rfl (Cl (.add (fK h.c_n (len _ (g.deep+1)) rfl ?_)))));refine(Qe (show O.inst 739 c.ndx (bQ "deep" (.int ((g.deep:Nat)+1)) (c.nF g.deep))=O.inst 739 c.ndx (c.nF (g.deep+1)) from np g.deep))▸(aW (h.s_deep (g.deep+1)).c_n (o.nf _).deep rfl (cw .gt ?_));refine(Qe (Qb (show¬(60:Int)<((g.deep+1:Nat):Int) from Su.mpr (SE.mpr M))))▸(af (eh ((h.s_deep (g.deep+1)).c_rule A) rfl I (s y _ (h.s_deep (g.deep+1)) _ λv u q B hp x U=>?_)));have N:=x.s_deep g.deep;have en:=x.c_n;rw[B] at en;refine Hc en (o.nf _).deep rfl (Cl (.sub (fK en ((Uc (g.deep:Int) 1:((g.deep+1:Nat):Int)-1=g.deep)▸len _ g.deep) rfl ?_)));refine(Qe ((λk=>(Uc (k:Int) 1:((k+1:Nat):Int)-1=k)▸PR _ (o.np (k+1) k):∀k,O.inst 739 c.ndx (bQ "deep" (.int (((k+1:Nat):Int)-1)) (c.nF (k+1)))=.inst 739 c.ndx (c.nF k)) g.deep))▸(yQ N at_ (cw .gt ?_));refine(Qe (Qg (show(0:Int)<(n:Nat) from UD.mpr J)))▸?_;have ht:aJ (nV n) (jQ v.types)=none:=m8.elim (λz1=>PO (z1) λu i=>VC rfl (hp _ i.1)) λz=>z.2;have G:(jQ v.types).length<=lim:=ID (PI (PL _)) (P2 (PJ (ID (Qp _ _) (ID (PM _ _) (ID (PM _ _) (PM _ _)))) x.lt));refine aq (aW N.c_n (o.nf _).types rfl (yQ N at_ (jT N.c_types (T {v with deep:=g.deep}) G (U _ ?_))));exact(Qe (fU ht))▸((PU (f:=λp:Nat×Nat=>(nV p.1,nV p.2)) (l₁:=v.types) (l₂:=[(n,u)]))▸N.s_type (n,u))
end
end
mutual
inductive Nd
 |nil|cons (a r:Nd)|leaf (n i:Nat)|uni (n:Nat)(l:Nd)|int (n:Nat)(l:Nd)|arr (n:Nat)(k:Nd)|ro (n:Nat)(k:Nd)|par (n:Nat)(k:Nd)|ref (n:Nat)(k:Nd)|tup (n:Nat)(l:Nd)|el (n s:Nat)(k:Nd)
noncomputable def ex:Nd->Tm
 |.nil=>.nil|.cons a r=>.cons (ex a) (ex r)|.leaf _ i=>.leaf i|.uni _ l=>.uni (ex l)|.int _ l=>.int (ex l)|.arr _ k=>.arr (ex k)|.ro _ k=>.ro (ex k)
 |.par _ k=>ex k|.ref _ k=>ex k|.tup _ l=>.tup (ex l)|.el _ s k=>.el s (ex k)
noncomputable def lc:Nd->Nat
 |.leaf n _=>n|.uni n _=>n|.int n _=>n|.arr n _=>n|.ro n _=>n|.par n _=>n|.ref n _=>n|.tup n _=>n|.el n _ _=>n|_=>0
noncomputable def br:Tm->Bool
 |.arr _=>true|.tup l=>br l|.ro t=>br t|.cons a r=>br a||br r|.el s t=>s==2&&br t|_=>false
noncomputable def lst:Nd->List Nd|.cons a r=>a::lst r|_=>[]
noncomputable def cE(s:Nat)(G rest t:Bool):Nat:=if rest&&(decide (s=2)&&G) then 1265 else if rest&&decide (s=1) then 1266 else if t&&(!decide (s=1)&& !decide (s=2)) then 1257 else 0
noncomputable def oB:Nd->Nat|.el _ s _=>s|_=>0
noncomputable def oI:List Nd->Bool->Bool->V9
 |[],_,_=>[]
 |N::r,rest,opt=>if cE (oB N) (br (ex N)) rest opt=0 then oI r (rest||br (ex N)) (opt||decide (oB N=1)) else[(cE (oB N) (br (ex N)) rest opt,lc N)]
noncomputable def iZ:Nd->Bool|.arr _ _=>true|.tup _ _=>true|_=>false
noncomputable def tl:Nd->V9
 |.cons a r=>tl a++tl r|.uni _ l=>tl l|.int _ l=>tl l|.arr _ k=>tl k|.ro n k=>(if iZ k then[] else[(1354,n)])++tl k
 |.par _ k=>tl k|.ref _ k=>tl k|.tup _ l=>oI (lst l) false false++tl l|.el _ _ k=>tl k|_=>[]
noncomputable def sub(U:Nat->Option Nd):Nd->Prop
 |.nil=>True|.cons a r=>sub U a/\sub U r
 |.leaf n i=>U n=some (.leaf n i)
 |.uni n l=>U n=some (.uni n l)/\sub U l|.int n l=>U n=some (.int n l)/\sub U l|.arr n k=>U n=some (.arr n k)/\sub U k|.ro n k=>U n=some (.ro n k)/\sub U k
 |.par n k=>U n=some (.par n k)/\sub U k|.ref n k=>U n=some (.ref n k)/\sub U k|.tup n l=>U n=some (.tup n l)/\sub U l|.el n s k=>U n=some (.el n s k)/\sub U k
noncomputable def old:Nd->Prop
 |.cons a r=>old a/\old r|.uni n l=>(∀x∈lst l,lc x<n)/\old l|.int n l=>(∀x∈lst l,lc x<n)/\old l|.arr n k=>lc k<n/\old k|.ro n k=>lc k<n/\old k
 |.par n k=>lc k<n/\old k|.ref n k=>True|.tup n l=>(∀x∈lst l,lc x<n)/\old l|.el n s k=>lc k<n/\old k|_=>True
noncomputable def jv(d:V9):Nd->Prop
 |.cons a r=>jv d a/\jv d r|.uni _ l=>jv d l|.int _ l=>jv d l|.arr _ k=>jv d k|.ro _ k=>jv d k|.par _ k=>jv d k|.ref n _=>∃u,(n,u)∈d|.tup _ l=>jv d l|.el _ _ k=>jv d k|_=>True
theorem lO{P:Nd->Prop}(h:∀a r,P (.cons a r)->P a/\P r):∀{L:Nd},x∈lst L->P L->P x
 |.cons a r,i,p=>(P0.mp i).elim (λe=>e▸(h a r p).1) λi=>lO h i (h a r p).2
 |.nil,i,_=>VC i PH
 |.leaf _ _,i,_=>VC i PH
 |.uni _ _,i,_=>VC i PH
 |.int _ _,i,_=>VC i PH
 |.arr _ _,i,_=>VC i PH
 |.ro _ _,i,_=>VC i PH
 |.par _ _,i,_=>VC i PH
 |.ref _ _,i,_=>VC i PH
 |.tup _ _,i,_=>VC i PH
 |.el _ _ _,i,_=>VC i PH
noncomputable def zx:List (Nat×Str×Nat):=[(0,"undefined",4),(1,"null",5),(8,"string",6),(9,"number",7),(10,"boolean",12),(11,"void",3),(12,"object",10),(13,"unknown",1),(14,"never",2)]
inductive yx(X:Y8):Nat->Addr->Prop
 |fls {k n dx ka:Addr} (e:At X k 5 (.str "") [] 0 n dx ka):yx X 2 k
 |tru {k n dx ka:Addr} (e:At X k 4 (.str "") [] 0 n dx ka):yx X 3 k
 |num {k n dx ka:Addr} (e:At X k 1 (.int 0) [] 0 n dx ka):yx X 4 k
 |neg {i:Nat} {v:Int} {k k2 n m dx ka Wv XT:Addr} (h:jc i=[.num (-v)]) (e:At X k 21 (.str "-") [k2] 0 n dx ka) (e2:At X k2 1 (.int v) [] 0 m Wv XT):yx X i k
 |str {i:Nat} {s:Str} {k n dx ka:Addr} (h:jc i=[.str s]) (o:PyData.strOk s=true) (e:At X k 2 (.str s) [] 0 n dx ka):yx X i k
def One(X:Y8)(kind fl n:Nat)(P:List Addr->Prop):List Addr->Prop
 |[a]=>∀Z:Prop,(∀ks dx e,At X a kind (.str "") ks fl n dx e->P ks->Z)->Z
 |_=>False
def DS(X:Y8)(n i:Nat):List Addr->Prop
 |[a]=>∀Z:Prop,(∀w t dx e,(i,w,t)∈zx->At X a 80 (.str w) [] 0 n dx e->Z)->Z
 |_=>False
def Ej(X:Y8)(n:Nat):List Addr->Prop
 |[a]=>∀Z:Prop,(∀dx e,At X a 81 (.str "N") [] 0 n dx e->Z)->Z
 |_=>False
def FK(X:Y8)(i:Nat):List Addr->Prop
 |[k]=>yx X i k
 |_=>False
noncomputable def iV:Nat->Nat|1=>4096|2=>8192|_=>0
noncomputable def fB(X:Y8):Nd->List Addr->Prop
 |.nil=>λas=>as=[]
 |.cons a r=>λas=>∃x xs,as=x::xs/\fB X a [x]/\fB X r xs
 |.leaf n i=>λas=>DS X n i as\/One X 82 0 n (FK X i) as
 |.uni n l=>One X 83 0 n (fB X l)
 |.int n l=>One X 84 0 n (fB X l)
 |.arr n k=>One X 85 0 n (fB X k)
 |.ro n k=>One X 97 0 n (fB X k)
 |.par n k=>One X 98 0 n (fB X k)
 |.ref n _=>Ej X n
 |.tup n l=>One X 86 0 n (fB X l)
 |.el n s k=>One X 87 (iV s) n (fB X k)
structure Go(g:bM)(U:Nat->Option Nd):Prop where
 wf:WF g.rows
 pos:U 0=none
 cache:∀p∈g.types,∃N,U p.1=some N/\Ty g.rows (ex N) p.2/\∀x∈tl N,x∈cW g
 sub:∀x∈cW g,x∈g.wt
 nd:(cW g).Nodup
structure Gr(g g':bM)(m:Nat):Prop where
 rows:g.rows<+:g'.rows
 at_:g'.at_=g.at_
 nid:g'.nid=g.nid
 deep:g'.deep=g.deep
 wt:g'.wt=g.wt
 told:∀x∈cW g,x∈cW g'
 types:∀p∈g'.types,p∈g.types\/p.1<=m
 keep:∀p∈g.types,p∈g'.types
end
section
variable{R:List Row}{i t:Nat}{r:Row}
theorem ul(w:WF R)(e:R[t]?=some r)(o:o0 t)(u:t≠2)(B:∀l,r≠.uni l)(h:jc i=[r]):Ty R (.leaf i) t:=
 ⟨⟨jW e,o⟩,λm x=>by
  have b:=d5 x.pre e;funext p;have C:PS m t p↔p=t:=by unfold PS;exact rR (bf u λl z=>B l (Qh (b.symm.trans z))) PG
  refine QR (C.trans ?_);show p=t↔∃r∈jc i,m[p]?=some r;refine(Qe (h))▸?_;exact⟨λz=>⟨r,.head _,z▸b⟩,λs=>by obtain⟨A,j,z⟩:=s;cases PG.mp j;exact x.wf.uniq z b⟩,λz=>VC z PC,λm x=>by
  have b:=d5 x.pre e;have J:=A9 h;refine⟨lg (p:=t) (λq=>?_) ((cn b J.2).trans (sB J.1 rfl)).symm .nil .nil λh=>VC rfl h,rfl⟩;show(∃r∈jc i,m[q]?=some r)↔_;exact(Qe (h))▸⟨λv=>by obtain⟨A,j,z⟩:=v;cases PG.mp j;exact x.wf.uniq z b,λz=>⟨r,.head _,z▸b⟩⟩⟩
theorem FM(w:WF R):∀x∈zx,Ty R (.leaf x.1) x.2.2:=by
 have c:∀{x:Nat×Str×Nat}{l:List (Nat×Str×Nat)},Ty R (.leaf x.1) x.2.2->(∀x∈l,Ty R (.leaf x.1) x.2.2)->∀y∈x::l,Ty R (.leaf y.1) y.2.2:=λh t=>eg h t;have k:∀{i t:Nat}{s:Str},bZ[t]?=some (.key s)->o0 t->t≠2->jc i=[.key s]->Ty R (.leaf i) t:=λe o n h=>ul w (w.get e) o n (λl h=>nomatch h) h;have v:∀{t},t<13->t≠0->t≠11->o0 t:=λh z y=>⟨z,λe=>VC h (by refine rR e ?_;decide),λe=>VC h (by refine rR e ?_;decide),λe=>VC h (by refine rR e ?_;decide),y⟩;refine c (k rfl (v dD dD dD) dD rfl) (c (k rfl (v dD dD dD) dD rfl) (c (k rfl (v dD dD dD) dD rfl) (c (k rfl (v dD dD dD) dD rfl) (c ⟨(λh z y=>⟨P5 (Q0 h dD) w.len,v h z y⟩:∀{t},t<13->t≠0->t≠11->ei R t) dD dD dD,λu x=>funext λp=>QR ?_,λz=>VC z PC,λu x=>⟨?_,rfl⟩⟩ (c (k rfl (v dD dD dD) dD rfl) (c (k rfl (v dD dD dD) dD rfl) (c (k rfl (v dD dD dD) dD rfl) (c ⟨(λh z y=>⟨P5 (Q0 h dD) w.len,v h z y⟩:∀{t},t<13->t≠0->t≠11->ei R t) dD dD dD,λu x=>funext λp=>QR ⟨λh=>VC (sB cq h:p∈[]) PH,λ⟨r,j,z⟩=>VC j PH⟩,λz=>VC z PC,λu x=>⟨ke λq ⟨r,j,z⟩=>VC j PH,rfl⟩⟩ bP))))))))
 all_goals
  have d:u[8]?=some (.bool 0 0):=x.wf.get rfl
  have f:u[9]?=some (.bool 1 0):=x.wf.get rfl
 rotate_left
 ·have Y:VS u (4,[]) λp=>p=8:=lg (λq=>Ul) (cn d rfl).symm .nil .nil λh=>VC rfl h;have z:=nG (R:=u) (Ss:=[λp=>p=8,λp=>p=9]) ⟨_,_,rfl,Y,_,_,rfl,(lg (λq=>Ul) (cn f rfl).symm .nil .nil λh=>VC rfl h:VS u (8,[]) λp=>p=9),rfl⟩;simp only[show be [(4,[]),(8,[])]=(12,[]) by decide+kernel,show bB [λp=>p=8,λp=>p=9]=λp=>∃r∈jc 10,u[p]?=some r from funext λp=>QR ⟨λA=>am A λS m k=>(P0.mp m).elim (λe=>⟨_,.head _,(show p=8 by subst e;exact k)▸d⟩) λm=>⟨_,.tail _ (.head _),(show p=9 by cases PG.mp m;exact k)▸f⟩,λ⟨r,j,z⟩=>(P0.mp j).elim (λe=>⟨_,.head _,x.wf.uniq (e▸z) d⟩) λm=>⟨_,.tail _ (.head _),x.wf.uniq (PG.mp m▸z) f⟩⟩] at z;exact z
 unfold PS;refine rR (nO x.wf (x.wf.get (t:=12) rfl)) ⟨λh=>?_,λ⟨r,j,z⟩=>?_⟩
 ·rcases P0.mp h with rfl|h
  ·exact⟨_,.head _,d⟩
  exact rR (PG.mp h) ⟨_,.tail _ (.head _),f⟩
 rcases P0.mp j with rfl|j
 ·exact x.wf.uniq z d▸ .head _
 cases PG.mp j;exact x.wf.uniq z f▸ .tail _ (.head _)
end
@[reducible] noncomputable def bM.dp(g:bM)(k:Nat):bM:={g with deep:=k}
section
variable{c:cR}{g:bM}{b t d:Nat}{X:Y8}{σ:Hp}{Q:KV}{l:Addr}{ns:Z9}{a:Addr}{kind:Nat}{av:V}{ks:List Addr}{fl n:Nat}{dx Y:Addr}{U:Nat->Option Nd}{N:Nd}
theorem Gr.refl:Gr g g m:=⟨Ry _,rfl,rfl,rfl,rfl,λe h=>h,λe h=>.inl h,λe h=>h⟩
theorem Gr.trans(a:Gr g g1 m)(b:Gr g1 g2 k)(h:m<=j)(h':k<=j):Gr g g2 j:=
 ⟨a.rows.trans b.rows,b.at_.trans a.at_,b.nid.trans a.nid,b.deep.trans a.deep,b.wt.trans a.wt,λx i=>b.told x (a.told x i),λp v=>(b.types p v).elim (λz=>(a.types p z).imp id λz=>ID z h) λz=>.inr (ID z h'),λp v=>b.keep p (a.keep p v)⟩
theorem Go.dp(G:Go g U)(k:Nat):Go (g.dp k) U:=⟨G.wf,G.pos,G.cache,G.sub,G.nd⟩
theorem Go.wr(G:Go g U)(e:d1 g.rows R):Go (g.wr R) U:=
 ⟨e.wf,G.pos,λp v=>nR (G.cache p v) λN a b d=>(oW N a (b.ext e) d),G.sub,G.nd⟩
theorem Gr.wr(e:d1 g.rows R):Gr g (g.wr R) m:=⟨e.pre,rfl,rfl,rfl,rfl,λf h=>h,λf h=>.inl h,λf h=>h⟩
structure Ou(c:cR)(g:bM)(U:Nat->Option Nd)(N:Nd)(j b t:Nat)(X:Y8)(g':bM)(u:Nat)(σ:Hp):Prop where
 go:Go g' U
 gr:Gr g g' j
 ty:Ty g'.rows (ex N) u
 told:∀x∈tl N,x∈cW g'
 h:H c g' b t X σ
def LR(c:cR)(g:bM)(U:Nat->Option Nd)(N:Nd)(j b t:Nat)(X:Y8)(Q:KV):=∀q u σ,Ou c g U N j b t X q u σ->Q (nV u) σ
def Fin(c:cR)(g:bM)(U:Nat->Option Nd)(N:Nd)(n b t:Nat)(X:Y8)(Q:KV):=∀j q u σ,j<n->Ou c g U N j b t X q u σ->Q (nV u) σ
theorem js(k:ai c){w:Nat}(h:H c g w t X σ)(G:Go g U)(y:U n=some N)(x:b<=w)(at_:At X a kind av ks fl n dx Y){C m:Addr}(hr:(kind,c.ru kind,c.rd kind,C)∈c.rl)(B:(aa l ns).meth C "made" =some m)(M:g.deep<60)(q:LR c g U N n b t X Q)(body:∀A f,H c (g.dp (g.deep+1)) w t X A->Go (g.dp (g.deep+1)) U->Fin c (g.dp (g.deep+1)) U N n (b+1) t X f->ad (aa l ns) d m [.ref (c.ru kind),.ref c.n,.ref a] A f):
  ad (aa l ns) (d+3) 708 [.ref c.n,.ref a] σ Q:=by
 refine II k h at_ (Sa λz=>nomatch (z▸y).symm.trans G.pos:0<n) hr B M (λu hu=>?_) λmu A L f i=>body A f L (G.dp _) λj s u o J r=>i s u o r.gr.deep (λp v e=>?_) r.h λI T=>q {s with deep:=g.deep,types:=s.types++[(n,u)]} u I ⟨?_,?_,r.ty,r.told,T⟩
 ·refine nR (G.cache _ hu) λN' e ty told=>?_;cases y.symm.trans e;exact q g u σ ⟨G,.refl,ty,told,h.dec x⟩
 ·exact(r.gr.types p v).elim (λz=>mu p z e) λz=>VB.mpr J (e▸z)
 ·exact⟨r.go.wf,r.go.pos,λp v=>(P3.mp v).elim (r.go.cache p) λz=>by refine(Qe (PG.mp z))▸?_;exact(oW N y r.ty r.told),r.go.sub,r.go.nd⟩
 ·exact⟨r.gr.rows,r.gr.at_,r.gr.nid,rfl,r.gr.wt,r.gr.told,λp v=>(P3.mp v).elim (λz=>(r.gr.types p z).imp id λz=>P2 (PJ z J)) λz=>by refine(Qe (PG.mp z))▸?_;exact .inr (PD _),λp v=>PZ _ (r.gr.keep p v)⟩
end
mutual
noncomputable def bu:Tm->Bool|.nil=>true|.cons a r=>bu a&&bu r|.leaf _=>true|.uni l=>bu l|.int l=>bu l|_=>false
noncomputable def AT:List Row:=[.key "undefined",.key "null",.bool 0 0,.bool 1 0,.num 0,.num (-1),.str "a",.str "",.key "string",.key "number",.key "void",.key "object",.key "unknown"]
theorem qZ{x:Row}(h:x∈jc i):x∈AT:=by
 by_cases z:i<15
 ·exact(by decide+kernel:∀i,i<15->∀x∈jc i,x∈AT) i z x h
 unfold jc at h;rw[SL (QU z)] at h;exact VC h PH
def k9(S:bC)(n:Nat):=∃L:W9,L.length<=n/\∀p,S p->p∈L
noncomputable def pb:Tm->Nat
 |.nil=>0|.cons a r=>pb a+pb r|.leaf i=>if i=10 then 2 else 1|.uni l=>pb l|.int l=>if bu l then 13 else pb l|.ro t=>pb t|_=>1
noncomputable def en:Tm->Nat
 |.cons a r=>en a+en r|.arr _=>1|.tup l=>en l|.ro t=>en t|.el s t=>if s=2 then en t else 1|_=>0
noncomputable def eb:Tm->Nat
 |.cons a r=>eb a+eb r|.arr t=>pb t|.tup l=>eb l|.ro t=>eb t|.el s t=>if s=2 then eb t else pb t+(if s=1 then 1 else 0)|_=>0
theorem dM{S S':bC}(h:k9 S n)(hs:∀p,S' p->S p)(e:n<=m):k9 S' m:=let ⟨L,a,b⟩:=h;⟨L,ID a e,λp v=>b p (hs p v)⟩
theorem u0{S S':bC}(h:k9 S n)(h':k9 S' m):k9 (λp=>S p\/S' p) (n+m):=
 let ⟨L,a,b⟩:=h;let ⟨M,t,b'⟩:=h'
 ⟨L++M,ID (PI PQ) (Qu a t),λp v=>P3.mpr (v.imp (b p) (b' p))⟩
theorem eO(w:WF R){t n:Nat}(h:k9 (PS R t) n):(ae R t).length<=n:=let ⟨L,a,b⟩:=h;ID (mK w b) a
theorem wS{S:bC}(h:∀p q,S p->S q->p=q):k9 S 1:=by
 by_cases e:∃p,S p
 ·exact PO (e) λp v=>⟨[p],PD _,λq d=>h q p d v▸ .head _⟩
 exact⟨[],PY _,λq d=>VC ⟨q,d⟩ e⟩
theorem Fs(i:Nat):(jc i).length<=pb (.leaf i):=by
 by_cases h:i<15
 ·exact(by decide:∀i,i<15->(jc i).length<=pb (.leaf i)) i h
 unfold jc;refine rR (SL (QU h)) ?_;exact PY _
theorem bY{t:Type}{x:t}{P:Prop}(h:none=some x):P:=nomatch h
theorem iD{ro:Nat}:∀{r:Row},iY r=some (l,ro)->r=.tup l ro\/∃e,l=[(e,2)]/\r=.arr e ro
 |.key _,h=>bY h
 |.bool _ _,h=>bY h
 |.obj,h=>bY h
 |.str _,h=>bY h
 |.num _,h=>bY h
 |.uni _,h=>bY h
 |.arr e r,h=>have h:=Sq (Qh h);.inr (aK e h.1.symm (sB h.2 rfl))
 |.tup m r,h=>have h:=Sq (Qh h);.inl (sB h.1 (sB h.2 rfl))
end
section
variable{R U:List Row}
theorem F2{l:V9}(h:iY r=some (l,ro))(hs:iY s=some (l,ro))(fr:∀m,r=.tup l m->∀e,l≠[(e,2)])(u:∀m,s=.tup l m->∀e,l≠[(e,2)]):r=s:=by
 rcases iD h with e|⟨x,e,n⟩<;>rcases iD hs with b|⟨y,b,es⟩
 ·exact e.trans b.symm
 ·exact VC b (fr _ e _)
 ·exact VC e (u _ b _)
 cases e.symm.trans b;exact n.trans es.symm
theorem pj(w:WF R){ro p q:Nat}(h:LP R es ro p)(h':LP R es ro q):p=q:=by refine dg (h) λr l e el m=>dg (h') λG g c Q s=>?_;have inj:∀{l g:V9},bl R l=bl R g->l=g:=λh=>Al (λa b z=>US (w.inj λp=>iff_of_eq (RT (Sq z).1 p)) (Sq z).2) h;cases inj (m.trans s.symm);cases F2 el Q (λm z=>by subst z;exact(w.fit _ _ e).2.2.1) (λm z=>by subst z;exact(w.fit _ _ c).2.2.1);exact w.uniq e c
theorem uj(x:d1 R U){u ro:Nat}{l:V9}{ev:nZ}(e:R[u]?=some row)(el:iY row=some (l,ro))(m:bl U l=es)(v:EV U es ev):VS U (0,[cK ev (decide (ro=1))]) (LP U es ro):=by have b:=d5 x.pre e;refine lg (p:=u) (λq=>⟨λh=>pj x.wf h (⟨row,l,b,el,m⟩:LP U es ro u),λe=>e▸(⟨row,l,b,el,m⟩:LP U es ro u)⟩) ?_ (RZ ..) (QK.mpr ⟨PH,.nil⟩) λa=>Rl 12;subst m;unfold pt;refine rR b (?_:_=sK (rd U) row);unfold sK;refine(Qe (el))▸(rR (HQ x.wf v) ?_);rfl
theorem dX:∀{T:Tm},bu T=true->(∀p,(aT R T).s 0 p->∃x i,x∈jc i/\R[p]?=some x)/\∀p,bB (aT R T).k p->∃x i,x∈jc i/\R[p]?=some x
 |.nil,_=>⟨λp h=>h.elim,λp o=>am o λS h _=>VC h PH⟩
 |.cons a r,h=>⟨λp h=>h.elim,λp q=>am q λS m k=>(P0.mp m).elim (λe=>(dX (vB h).1).1 p (sB e k)) λm=>(dX (vB h).2).2 p ⟨S,m,k⟩⟩
 |.leaf i,_=>⟨λp w=>am w λr J y=>(rS r i J y),λp n=>am n λS h _=>VC h PH⟩
 |.uni l,h=>⟨λp k=>(dX (T:=l) h).2 p k.2.1,λp j=>am j λS h _=>VC h PH⟩
 |.int l,h=>⟨λp k=>(dX (T:=l) h).2 p k.2.1.1,λp s=>am s λS h _=>VC h PH⟩
 |.arr _,h=>VC h PC
 |.tup _,h=>VC h PC
 |.ro _,h=>VC h PC
 |.el _ _,h=>VC h PC
theorem dl(w:WF R):∀e:Tm,(∀r,k9 ((aT R e).s r) (pb e))/\k9 (bB (aT R e).k) (pb e)
 |.nil=>⟨λb=>⟨[],PD _,λb h=>h.elim⟩,[],PD _,λp o=>am o λS h _=>VC h PH⟩
 |.cons a r=>⟨λb=>⟨[],PY _,λb h=>h.elim⟩,dM (u0 ((dl w a).1 0) (dl w r).2) (λp s=>am s λS h C=>(P0.mp h).elim (λe=>.inl (sB e C)) λh=>.inr ⟨S,h,C⟩) (PD _)⟩
 |.leaf i=>⟨λb=>⟨(jc i).map (vz R),ID (PI (PL _)) (Fs i),λp y=>am y λr n d=>P1.mpr ⟨r,n,w.uniq (Qi.mpr ⟨SQ (QO d),Ua _⟩) d⟩⟩,[],PY _,λp j=>am j λS h _=>VC h PH⟩
 |.uni l=>⟨λb=>dM (dl w l).2 (λp h=>h.2.1) (PD _),[],PY _,λp k=>am k λS h _=>VC h PH⟩
 |.int l=>⟨λb=>by
   by_cases f:bu l=true
   ·refine⟨AT.map (vz R),PI (PW f).symm,λp h=>?_⟩;exact PO ((dX (T:=l) f).2 p h.2.1.1) λx c=>PO c λi Q=>P1.mpr ⟨x,qZ Q.1,w.uniq (Qi.mpr ⟨SQ (QO Q.2),Ua _⟩) Q.2⟩
   exact dM (dl w l).2 (λp h=>h.2.1.1) (PI (PV f).symm),[],PY _,λp u=>am u λS h _=>VC h PH⟩
 |.arr t=>⟨λb=>wS λp q=>pj w,[],PY _,λp g=>am g λS h _=>VC h PH⟩
 |.tup t=>⟨λb=>wS λp q=>pj w,[],PY _,λp v=>am v λS h _=>VC h PH⟩
 |.ro t=>⟨λb=>(dl w t).1 1,[],PY _,λp m=>by refine PO m λS M=>?_;have h:=M.1;exact VC h PH⟩
 |.el _ _=>⟨λb=>⟨[],PY _,λb h=>h.elim⟩,[],PY _,λp Y=>am Y λS B _=>VC B PH⟩
theorem Ty.parts(w:WF R){t:Nat}(h:Ty R T t):(ae R t).length<=pb T:=eO w (h.eq R (.refl w)▸(dl w T).1 0)
end
noncomputable def fu:Nd->Nat
 |.nil=>0|.cons a r=>max (fu a) (fu r)|.leaf _ _=>8|.uni _ l=>fu l+8|.int _ l=>fu l+20|.arr _ k=>fu k+6|.ro _ k=>fu k+16|.par _ k=>fu k+4|.ref _ _=>3|.tup _ l=>fu l+20|.el _ _ k=>fu k
noncomputable def lv:Nd->Nat
 |.nil=>0|.cons a r=>max (lv a) (lv r)|.leaf _ _=>1|.uni _ l=>lv l+1|.int _ l=>lv l+1|.arr _ k=>lv k+1|.ro _ k=>lv k+1|.par _ k=>lv k+1|.ref _ _=>0|.tup _ l=>lv l+1|.el _ _ k=>lv k
noncomputable def co:Nd->Nat
 |.nil=>0|.cons a r=>co a+co r|.leaf _ _=>2|.uni _ l=>co l+2|.int _ l=>co l+102|.arr _ k=>co k+2|.ro _ k=>co k+132|.par _ k=>co k+1|.ref _ _=>0|.tup _ l=>co l+132|.el _ _ k=>co k+1
noncomputable def Bb:Nd->Bool|.el _ _ _=>true|_=>false
noncomputable def one:Nd->Bool|.nil=>false|.cons _ _=>false|.el _ _ _=>false|_=>true
noncomputable def eH:Nd->Bool|.nil=>true|.cons a r=>(one a||Bb a)&&eH r|_=>false
noncomputable def tK:Nd->Prop
 |.cons a r=>tK a/\tK r|.uni _ l=>(eH l=true/\(lst l).length<=100)/\pb (ex l)<64/\tK l/\∀x∈lst l,one x=true|.int _ l=>(eH l=true/\(lst l).length<=100)/\pb (ex l)<64/\tK l/\bu (ex l)=true/\l≠.nil/\∀x∈lst l,one x=true|.arr _ k=>tK k/\one k=true|.ro _ k=>tK k/\one k=true/\(gw (ex k)=true\/bu (ex k)=true)/\en (ex k)<64/\eb (ex k)<64/\pb (ex k)<64
 |.par _ k=>tK k/\one k=true|.tup _ l=>(eH l=true/\(lst l).length<=100)/\(∀x∈lst l,Bb x=true)/\tK l/\en (ex l)<64/\eb (ex l)<64|.el _ s k=>tK k/\one k=true/\s<=2/\(s=2->gw (ex k)=true)|_=>True
section
variable{c:cR}{g:bM}{b t d:Nat}{X:Y8}{σ:Hp}{Q:KV}{l a:Addr}{ns:Z9}{U:Nat->Option Nd}{N:Nd}
mutual
theorem D0(w:WF R)(f:xZ R R.length r)(n:r≠.key "never"):vz R r≠2:=λz=>n (Qh ((z▸dz (R:=R) (r:=r)).symm.trans ((w.put f).get (t:=2) rfl)))
theorem One.one{P:List Addr->Prop}:∀{as:List Addr},One X kind fl n P as->∃y,as=[y]
 |[a],_=>⟨a,rfl⟩
theorem jI(o:one k=true)(h:fB X k as):∃y,as=[y]:=by
 cases k<;>first|exact VC o PC|exact h.one|skip
 all_goals cases as with
  |nil=>first|exact False.elim h|exact h.elim False.elim False.elim
  |cons a r=>cases r with
   |nil=>exact⟨a,rfl⟩
   |cons=>first|exact False.elim h|exact h.elim False.elim False.elim
structure L7(c:cR)(g:bM)(b t:Nat)(X:Y8)(σ:Hp)(U:Nat->Option Nd)(N:Nd)(as:List Addr):Prop where
 h:H c g b t X σ
 go:Go g U
 sub:sub U N
 old:old N
 ok:tK N
 is:fB X N as
 tl:∀x∈tl N,x∈g.wt
 lv:g.deep+lv N<=60
 rf:jv g.types N
def ph(c:cR)(l:Addr)(ns:Z9)(U:Nat->Option Nd)(N:Nd):=∀⦃D d g b t X σ Q a⦄,D=d+fu N->L7 c g (b+co N) t X σ U N [a]->LR c g U N (lc N) b t X Q->ad (aa l ns) D 708 [.ref c.n,.ref a] σ Q
theorem HF(h:k<=d):∃e,d=e+k:=⟨d-k,(Q5 h).symm⟩
theorem BI:∀r∈jc i,r.kind=3\/r.kind=4->r=.str "a" \/r=.str "" \/r=.num 0\/r=.num (-1):=by
 unfold jc;cases e:yG[i]? with
 |none=>exact bP
 |some L=>exact(by decide+kernel:∀L∈yG,∀x∈L,x.kind=3\/x.kind=4->x=.str "a" \/x=.str "" \/x=.num 0\/x=.num (-1)) L (QO e)
theorem Gz(h:jc i=[.num v]):v=0\/v= -1:=by
 rcases BI (i:=i) (.num v) ((Qe (h))▸(.head _)) (.inr rfl) with e|e|e|e
 ·exact nomatch e
 ·exact nomatch e
 ·exact .inl (Row.num.inj e)
 exact .inr (Row.num.inj e)
theorem Fo(h:jc i=[.str v]):v="a" \/v="":=by
 rcases BI (i:=i) (.str v) ((Qe (h))▸(.head _)) (.inl rfl) with e|e|e|e
 ·exact .inl (Row.str.inj e)
 ·exact .inr (Row.str.inj e)
 ·exact nomatch e
 exact nomatch e
theorem LD(m:ai c)(h:H c g (b+1) t X σ)(G:Go g U){i:Nat}{k:Addr}(e:yx X i k)(q:∀R u w,d1 g.rows R->Ty R (.leaf i) u->H c (g.wr R) b t X w->Q (nV u) w):ad (aa l ns) (d+3) 819 [.ref c.tab,.ref k] σ Q:=by
 have num:∀{v:Int},jc i=[.num v]->∀w,H c (g.wr (dR g.rows (.num v))) b t X w->Q (nV (vz g.rows (.num v))) w:=λ{v} e w h'=>
  have f:xZ g.rows g.rows.length (.num v):=Gz e
  have o:=lp G.wf f rfl
  q _ _ w (⟨cx,G.wf.put f⟩:d1 g.rows (dR g.rows (.num v))) (ul (⟨cx,G.wf.put f⟩:d1 g.rows (dR g.rows (.num v))).wf dz o.2 (D0 G.wf f (λh=>nomatch h)) (λl h=>nomatch h) e) h'
 have str:∀{s:Str},jc i=[.str s]->∀w,H c (g.wr (dR g.rows (.str s))) b t X w->Q (nV (vz g.rows (.str s))) w:=λ{s} e w h'=>
  have f:xZ g.rows g.rows.length (.str s):=Fo e
  have o:=lp G.wf f rfl
  q _ _ w (⟨cx,G.wf.put f⟩:d1 g.rows (dR g.rows (.str s))) (ul (⟨cx,G.wf.put f⟩:d1 g.rows (dR g.rows (.str s))).wf dz o.2 (D0 G.wf f (λh=>nomatch h)) (λl h=>nomatch h) e) h'
 have y:∀{k r},bZ[k]?=some r->k<11->k≠0->k≠2->(∀l,r≠.uni l)->jc i=[r]->Q (nV k) σ:=λe C J j T z=>
  q _ _ σ (.refl G.wf) (ul G.wf (G.wf.get e) ⟨J,λe=>VC C (by refine rR e ?_;decide),λe=>VC C (by refine rR e ?_;decide),λe=>VC C (by refine rR e ?_;decide),λe=>VC C (by refine rR e ?_;decide)⟩ j T z) (h.dec (Qt _))
 refine ah (F:=jK) rfl rfl ?_
 induction e with
 |fls e=>exact ca h e (ag (a:=5) (b:=1) (af (ca h e (ag (a:=5) (b:=2) (af (ca h e (ag (a:=5) (b:=4) (af (ca h e (ag (a:=5) (b:=5) (aq (y (k:=8) rfl dD dD dD (λl h=>nomatch h) rfl))))))))))))
 |tru e=>exact ca h e (ag (a:=4) (b:=1) (af (ca h e (ag (a:=4) (b:=2) (af (ca h e (ag (a:=4) (b:=4) (aq (y (k:=9) rfl dD dD dD (λl h=>nomatch h) rfl)))))))))
 |num e=>exact ca h e (ag (a:=1) (b:=1) (aq (aW (h.loc e.nd) rfl rfl (He m h (num rfl)))))
 |str x o e=>exact ca h e (ag (a:=2) (b:=1) (af (ca h e (ag (a:=2) (b:=2) (aq (aW (h.loc e.nd) rfl rfl (Mi m h o (str x))))))))
 |neg x e I=>refine ca h e (ag (a:=21) (b:=1) (af (ca h e (ag (a:=21) (b:=2) (af (ca h e (ag (a:=21) (b:=4) (af (ca h e (ag (a:=21) (b:=5) (af (ca h e (ag (a:=21) (b:=21) (aq (aW (h.loc e.nd) rfl rfl (Nj (by decide+kernel:PyData.strOk "-" =true) (by decide+kernel:PyData.strOk "-" =true) ?_))))))))))))))));refine az (p:=("-":Str)="-") (λA=>gM h e (cm (i:=0) (h.loc e.ks) dD rfl (ca h I (ag (a:=1) (b:=1) (aq (gM h e (cm (i:=0) (h.loc e.ks) dD rfl (aW (h.loc I.nd) rfl rfl (kr (He m h (num x))))))))))) λn=>VC rfl n
def KW:X7:=(E7.lookup 793).getD []
theorem GR:∀x∈zx,aI (.str x.2.1) KW=true/\aJ (.str x.2.1) KW=some (nV x.2.2):=by decide+kernel
end
section
variable{k:Nd}{n i:Nat}{R:List Row}
theorem Go.id_pos(G:Go g U)(h:U n=some N):0<n:=Sa λz=>nomatch (z▸h).symm.trans G.pos
theorem Ii(m:ai c):ph c l ns U (.leaf n i):=λ{D d g b t X σ Q a} v A q=>by
 subst v;have f:=A.go.id_pos A.sub;refine A.is.elim (λe=>e _ λw G dx o J at_=>?_) λe=>e _ λks dx o at_ lt=>?_
 ·refine js (d:=d+5) (b:=b) m A.h A.go A.sub (PM ..) at_ m.r80 rfl (Nat.lt_of_succ_le A.lv) q λB h C L Y=>ah (F:=dq) rfl rfl (bk (.getF (es:=KW) rfl) (aW (C.loc at_.nd) rfl rfl (kJ (.getF (es:=KW) (GR _ J).1 ?_))));exact rR ((GR _ J).2) (Y 0 _ _ _ f ⟨L,.refl,FM L.wf _ J,bP,C.dec (Qt _)⟩)
 refine js (d:=d+5) (b:=b) m A.h A.go A.sub (PM ..) at_ m.r82 rfl (Nat.lt_of_succ_le A.lv) q λB h C L Y=>?_;obtain⟨k,rfl⟩:∃k,ks=[k]:=by
  cases ks with
  |nil=>exact lt.elim
  |cons k r=>induction r with
   |nil=>exact⟨k,rfl⟩
   |cons _ _=>exact lt.elim
 exact ah (F:=gc) rfl rfl (aW C.c_n (m.nf _).tab rfl (gM C at_ (cm (i:=0) (C.loc at_.ks) dD rfl (LD (b:=b+1) m C L lt λR u s x p j=>Y 0 _ _ _ f ⟨L.wr x,.wr x,p,bP,j⟩))))
theorem NR{b k:Nat}:b+1+k<=b+(k+1):=PI (Qy b 1 k)
theorem zT(h:g.deep+(j+1)<=60):(g.dp (g.deep+1)).deep+j<=60/\g.deep<60:=⟨ID (PI (Qy ..)) h,P5 (RY (Ra _)) h⟩
theorem MC(m:ai c)(e:ph c l ns U k):ph c l ns U (.par n k):=λ{D d g b t X σ Q a} v A q=>A.is _ λks dx h at_ is=>by subst v;obtain⟨y,rfl⟩:=jI A.ok.2 is;exact js (d:=d+(fu k+1)) (b:=b) m A.h A.go A.sub.1 (PM ..) at_ m.r98 rfl (zT A.lv).2 q λB f C L Y=>ah (F:=dh) rfl rfl (eh C.c_n (m.nf _).type_of rfl (gM C at_ (cm (i:=0) (C.loc at_.ks) dD rfl (e rfl ⟨C.dec NR,L,A.sub.2,A.old.2,A.ok.1,is,A.tl,(zT A.lv).1,A.rf⟩ λs u o r=>Y _ s u o A.old.1 ⟨r.go,r.gr,r.ty,r.told,r.h⟩))))
theorem zu(h:iY r=some x):(∀l,r≠.uni l)/\r≠.key "never":=
 ⟨λl e=>by subst e;exact bY h,λe=>by subst e;exact bY h⟩
theorem j6(x:d1 R R'){u ro:Nat}{l:V9}(e:R[u]?=some row)(el:iY row=some (l,ro))(m:bl R' l=es):PS R' u=LP R' es ro:=by
 have f:=d5 x.pre e;have v:u≠2:=λz=>by subst z;exact(zu el).2 (Qh (f.symm.trans (x.wf.get (t:=2) rfl)))
 funext p;unfold PS;exact rR (bf v λl z=>(zu el).1 l (Qh (f.symm.trans z))) (QR (PG.trans ⟨λz=>z▸(⟨row,l,f,el,m⟩:LP R' es ro u),λz=>pj x.wf z (⟨row,l,f,el,m⟩:LP R' es ro u)⟩))
theorem pY(w:WF R){e:Nat}(h:Ty R T e):d1 R (dR R (.arr e 0))/\Ty (dR R (.arr e 0)) (.arr T) (vz R (.arr e 0)):=by
 have f:xZ R R.length (.arr e 0):=⟨h.ok.1,h.ok.2,PY _⟩;have x:d1 R (dR R (.arr e 0)):=⟨cx,w.put f⟩;exact⟨x,lp w f rfl,λm y=>j6 y dz rfl (PR (λS=>[(S,2)]) (h.eq m (x.trans y))),λj=>(rS _ _ dz rfl),λm y=>
  ⟨uj (ro:=0) (row:=.arr e 0) y dz rfl (PR (λS=>[(S,2)]) (h.eq m (x.trans y))) (⟨_,_,rfl,((h.gd m (x.trans y)).v),rfl⟩:EV m [((aT m T).s 0,2)] [((val T).v,2)]),(⟨_,_,rfl,((h.gd m (x.trans y)).v),rfl⟩:EV m [((aT m T).s 0,2)] [((val T).v,2)])⟩⟩
theorem FC(m:ai c)(e:ph c l ns U k):ph c l ns U (.arr n k):=λ{D d g b t X σ Q a} v A q=>A.is _ λks dx h at_ is=>by
 subst v;obtain⟨y,rfl⟩:=jI A.ok.2 is;exact js (d:=d+fu k+3) (b:=b) m A.h A.go A.sub.1 (PM ..) at_ m.r85 rfl (zT A.lv).2 q λB f C L Y=>ah (F:=dj) rfl rfl (aW C.c_n (m.nf _).tab rfl (eh C.c_n (m.nf _).type_of rfl (gM C at_ (cm (i:=0) (C.loc at_.ks) dD rfl (e (d:=d+2) (b:=b+2) (Qy ..) ⟨C.dec (PI (Qy b 2 _)),L,A.sub.2,A.old.2,A.ok.1,is,A.tl,(zT A.lv).1,A.rf⟩ λs u o r=>
  zi (d:=d+fu k) (b:=b+1) m r.h λz T=>Y _ _ _ _ A.old.1 ⟨r.go.wr (pY r.go.wf r.ty).1,r.gr.trans (.wr (pY r.go.wf r.ty).1) (PD _) (PD _),(pY r.go.wf r.ty).2,r.told,T⟩)))))
end
end
theorem bX(h:∀p∈ty,p∈ty'):∀{N:Nd},jv ty N->jv ty' N
 |.cons _ _,r=>⟨bX h r.1,bX h r.2⟩
 |.nil,r=>r
 |.leaf _ _,r=>r
 |.uni _ l,r=>bX (N:=l) h r
 |.int _ l,r=>bX (N:=l) h r
 |.arr _ k,r=>bX (N:=k) h r
 |.ro _ k,r=>bX (N:=k) h r
 |.par _ k,r=>bX (N:=k) h r
 |.ref _ _,r=>r.imp λu m=>h _ m
 |.tup _ l,r=>bX (N:=l) h r
 |.el _ _ k,r=>bX (N:=k) h r
def cs(l:List (Nd×Addr)):Nat:=(l.map λp=>co p.1).sum
theorem Cj(h:eH L=true):∀{xs:List (Nd×Addr)},lst L=xs.map (·.1)->co L=cs xs:=by
 induction L with
 |cons a r _ ih=>exactλ{xs} e=>match xs,e with
  |x::xs,e=>congr (PR HAdd.hAdd (PR co (QB e).1)) (ih (vB h).2 (QB e).2)
 |nil=>exactλ{xs} e=>match xs,e with
  |[],_=>rfl
 |_=>exact VC h PC
structure Lb(c:cR)(g:bM)(U:Nat->Option Nd)(L:List Nd)(j b t:Nat)(X:Y8)(g':bM)(us:W9)(σ:Hp):Prop where
 go:Go g' U
 gr:Gr g g' j
 ok:∀u∈us,ei g'.rows u
 ty:∀R',d1 g'.rows R'->us.map (PS R')=L.map λx=>(aT R' (ex x)).s 0
 told:∀N∈L,∀x∈tl N,x∈cW g'
 gd:∀R',d1 g'.rows R'->∀x∈L,Gd R' (ex x)
 h:H c g' b t X σ
section
variable{c:cR}{g:bM}{b t d n:Nat}{X:Y8}{σ:Hp}{Q:KV}{l:Addr}{ns:Z9}{U:Nat->Option Nd}{k:Nd}
section
variable{a:Addr}{N:Nd}{i:Nat}{R:List Row}
theorem C4:∀{L:Nd}{ks:List Addr},eH L=true->fB X L ks->∃xs:List (Nd×Addr),ks=xs.map (·.2)/\lst L=xs.map (·.1)/\∀p∈xs,fB X p.1 [p.2]:=by
 intro L;induction L with
 |nil=>exactλ{ks} m h=>(oW ([]) h rfl bP)
 |cons a r _ ih=>intro ks o h;exact dg (h) λx xs e T f=>nR (ih (vB o).2 f) λys y j q=>(oW ((a,x)::ys) (e.trans (PR (x:: ·) y)) (PR (a:: ·) j) (λp v=>(P0.mp v).elim (λe=>e▸T) (q p)))
 |_=>exactλo=>VC o PC
theorem CS(ck:ai c)(il:eH L=true)(hk:∀x∈lst L,ph c l ns U x/\fu x<=M/\lc x<=j)(A:L7 c g (b+co L) t X σ U L ks)(mk:(ka,.list (ks.map V.ref))∈X)(hl:(lst L).length<=lim)(q:∀g' us T,Lb c g U (lst L) j b t X g' us T->alloc (.list (us.map nV)) T Q):
  iA (cP (aa l ns) (ad (aa l ns) M) gl) (.one 3) (Bv (aa l ns) (ad (aa l ns) M) .nil) [some (.ref r),some (.ref c.n),some v,none] Q (.ref ka) σ:=by
 refine nR (C4 il A.is) λxs Z0 e2 Xv=>?_;subst Z0
 have hx:∀p∈xs,p.1∈lst L:=λp hp=>rR e2 (P1.mpr (aK p hp rfl))
 have h0:=A.h
 rw[(Cj il e2)] at h0
 rw[e2] at q hl
 rw[QA] at mk
 rw[PL] at hl
 have P:=λ(P:Nd->Prop) (h:∀a r,P (.cons a r)->P a/\P r) {p} (hp:p∈xs)=>lO h (hx p hp)
 refine oM (f:=λp:Nd×Addr=>V.ref p.2) (.list (h0.loc mk)) hl (λs acc σ=>∀Z:Prop,(∀Y us,acc=us.map nV->Lb c g U (s.map (·.1)) j (b+cs (xs.drop s.length)) t X Y us σ->Z)->Z)
  (λZ z=>z g [] rfl ⟨A.go,.refl,bP,λw w=>rfl,bP,λw w N h=>VC h PH,h0⟩) (λs x J e R acc hR σ i=>i _ λY us ea rs=>?_) λacc σ i=>i _ λY us ea rs=>?_
 ·have o:x∈xs:=rR e (PK _ (.head _));have ed:cs (xs.drop s.length)=co x.1+cs J:=by refine rR e (rR RS ?_);rfl
  have h1:=rs.h;rw[ed] at h1;refine DP (hk x.1 (hx x o)) λtx fx jx=>jn (HF fx) λm em=>⟨.list (h1.loc mk),eh h1.c_n (ck.nf _).type_of rfl (tx (b:=b+cs J) (d:=m) em ⟨h1.dec (PI (by rw[QH,RP (cs J)])),rs.go,P (sub U) (λw w h=>h) o A.sub,P old (λw w h=>h) o A.old,P tK (λw w h=>h) o A.ok,Xv x o,
   λy C=>rs.gr.wt▸P (λN=>∀y∈tl N,y∈g.wt) (λw w h=>⟨λy C=>h y (PZ _ C),λy C=>h y (PK _ C)⟩) o A.tl y C,
   rs.gr.deep▸P (λN=>g.deep+lv N<=60) (λw w h=>⟨ID (P8 (QY ..) _) h,ID (P8 (Rd ..) _) h⟩) o A.lv,bX rs.gr.keep (P (jv g.types) (λw w h=>h) o A.rf)⟩ λg2 u ab B=>hR _ _ λZ z=>z g2 (us++[u]) (by refine rR ea (rR PU ?_);rfl) ?_)⟩;rw[((PR (List.drop (s++[x]).length) (e.trans (R8 s x J))).trans RS:xs.drop (s++[x]).length=J),PU];exact⟨B.go,rs.gr.trans B.gr (PD _) jx,bh (λy C=>(rs.ok y C).ext B.gr.rows) B.ty.ok,λI G=>by refine rR PU (rR PU ?_);exact congr (PR HAppend.hAppend (rs.ty I ⟨B.gr.rows.trans G.pre,G.wf⟩)) (PR (λS=>[S]) (B.ty.eq I G)),bh (P:=λN=>∀x∈tl N,x∈cW g2) (λN hN y C=>B.gr.told y (rs.told N hN y C)) B.told,λI G=>bh (P:=λN=>Gd I (ex N)) (rs.gd I ⟨B.gr.rows.trans G.pre,G.wf⟩) (B.ty.gd I G),B.h⟩
 ·rw[R9] at rs;exact⟨.list (rs.h.loc mk),ea▸q Y us σ rs⟩
end
theorem DL(h:eH L=true):(aT R (ex L)).k=(lst L).map λx=>(aT R (ex x)).s 0:=by
 induction L with
 |cons a r _ ih=>exact PR ((aT R (ex a)).s 0:: ·) (ih (vB h).2)
 |nil=>rfl
 |_=>exact VC h PC
theorem tT(w:WF R)(h:eH L=true):∀{us:W9},us.map (PS R)=((lst L).map λx=>(aT R (ex x)).s 0)->(us.flatMap (ae R)).length<=pb (ex L):=by
 induction L with
 |cons a r _ ih=>
  intro us e;induction us with
  |nil=>exact PY _
  |cons u us=>exact rR QE (rR PQ (Qu (eO w ((QB e).1▸(dl w (ex a)).1 0)) (ih (vB h).2 (QB e).2)))
 |nil=>
  intro us e;induction us with
  |nil=>exact PD _
  |cons u us=>exact nomatch e
 |_=>exact VC h PC
theorem yd(h:eH L=true):∀y∈tl L,∃N∈lst L,y∈tl N:=by
 induction L with
 |cons a r _ ih=>exactλy B=>(P3.mp B).elim (λz=>(aK a (.head _) z)) λz=>am (ih (vB h).2 y z) λN I z=>(aK N (.tail _ I) z)
 |nil=>exact bP
 |_=>exact VC h PC
theorem Ab:∀x∈lst L,fu x<=fu L:=by
 induction L with
 |cons a r _ ih=>exactλx h=>(P0.mp h).elim (λe=>sB e (QY ..)) λh=>ID (ih x h) (Rd ..)
 |_=>exact bP
theorem HW(h:eH L=true):(∀x∈lst L,Gd R (ex x))->VK R (aT R (ex L)).k (val (ex L)).k:=by
 induction L with
 |cons a r _ ih=>exactλz=>⟨_,_,rfl,(z a (.head _)).v,ih (vB h).2 λx i=>z x (.tail _ i)⟩
 |nil=>exactλe=>rfl
 |_=>exact VC h PC
theorem Ki(w:WF R){L:Tm}{us:W9}(A:∀u∈us,ei R u)(e:∀m,d1 R m->us.map (PS m)=(aT m L).k)(h:∀m,d1 R m->VK m (aT m L).k (val L).k)(x:d1 R R1)(o:ei R1 u)(s:PS R1 u=aC R λp=>∃i∈us,PS R i p):Ty R1 (.uni L) u:=
 ⟨o,λm y=>by show PS m u=aC m (bB (aT m L).k);have z:=x.trans y;simp only[<-e m z,dT y.pre o.1,s,show bB (us.map (PS m))=λp=>∃i∈us,PS R i p from funext λp=>QR (jR.trans (Vu λi=>Rx λhi=>by rw[dT z.pre (A i hi).1]))];exact(dL z.pre λp q=>am (q) λi Y I=>oS w (A i Y) I).symm,λz=>VC z PC,λm y=>⟨pd y.wf (nG (h m (x.trans y))),rfl⟩⟩
section
variable{a:Addr}{N:Nd}{i:Nat}{R:List Row}
theorem JW(m:ai c)(G:∀x∈lst k,ph c l ns U x):ph c l ns U (.uni n k):=λ{D d g b t X σ Q a} z A q=>A.is _ λks dx ka at_ is=>by subst z;have e:=A.ok.1.1;have M:=A.ok.1.2;have I:=A.ok.2.1;have ok:=A.ok.2.2.1;refine js (d:=d+fu k+5) (b:=b) m A.h A.go A.sub.1 (PM ..) at_ m.r83 rfl (zT A.lv).2 q λWa Q1 C L Y=>ah (F:=ib) rfl rfl (aW C.c_n (m.nf _).tab rfl (gM C at_ ?_));refine CS (b:=b+2) (j:=n-1) m e (λx v=>⟨G x v,ID (Ab x v) (ID (Qp ..) (PM _ 4)),SV ((A.old.1) x v)⟩) ⟨C.dec (PI (Qy b 2 _)),L,A.sub.2,A.old.2,ok,is,A.tl,(zT A.lv).1,A.rf⟩ at_.ks (ID M dD) λg' us ma r w B=>mD (d:=d+fu k+1) (b:=b+1) m (r.h.new (o:=.list (us.map nV)) B) r.go.wf (.inr (aK w rfl (.head _))) r.ok (PJ (tT r.go.wf e (r.ty _ (.refl r.go.wf))) I) λp u ab x o s T=>Y (n-1) _ _ _ (Vb (So (A.go.id_pos A.sub.1))) ⟨r.go.wr x,r.gr.trans (.wr x) (PD _) (PD _),Ki r.go.wf r.ok (λp x=>(r.ty p x).trans (DL e).symm) (λp x=>HW e (r.gd p x)) x o s,λy J=>?_,T.tail⟩;exact am (yd e y J) λN h f=>r.told N h y f
theorem Kb(m:ai c):ph c l ns U (.ref n k):=λ{D d g b t X σ Q a} v A q=>A.is _ λdx j at_=>by subst v;obtain⟨u,B⟩:=A.rf;refine Mm (d:=d+1) m A.h at_ B λu B=>nR (A.go.cache _ B) λh e f told=>?_;cases A.sub.1.symm.trans e;exact q g u σ ⟨A.go,.refl,f,told,A.h⟩
end
end
section
variable{R:List Row}
section
variable{U:List Row}
mutual
theorem Bm:∀{s:W9},(∀m∈s,m=0)->ak s=0:=by
 intro l;induction l with
 |nil=>intro _;exact rfl
 |cons m s ih=>intro h;unfold ak;exact rR (ih λx i=>h x (.tail _ i)) (rR (PW rfl) (rR (PW (h m (.head _))) rfl))
theorem A4:∀{es:ja},0∈(nrm R es).map (·.2)->0∈es.map (·.2):=by
 intro l;induction l with
 |nil=>intro h;exact h
 |cons x r ih=>
  intro h;unfold nrm at h;split at h
  ·refine RD (P0.mp h) (λh=>?_) λh=>?_
   ·exact VC (show(0:Nat)=2 from h) dD
   exact am (P1.mp h) λy B e=>P1.mpr (aK y (QQ B) e)
  refine RD (P0.mp h) (λh=>?_) λh=>?_
  ·split at h
   ·exact .tail _ ‹_/\_›.2
   exact rR h (.head _)
  exact .tail _ (ih h)
theorem qD(w:WF R):∀{es:ja},nrm R (nrm R es)=nrm R es
 |[]=>rfl
 |x::r=>by
  by_cases G:x.2=2
  ·refine rR (show nrm R (x::r)=_ from PW G) ?_;have hz:=Bm (s:=((x::r).drop (ak ((x::r).map (·.2)))).map (·.2)) λm M=>am (P1.mp M) λy B e=>sB e (sX y B);generalize (x::r).drop (ak ((x::r).map (·.2)))=post at*;generalize bB (((x::r).take (ak ((x::r).map (·.2)))).map (late R))=S;have J:ak ((((aC R S,2):bC×Nat)::post).map (·.2))=1:=by show(if ak (post.map (·.2))=0 then _ else _)=1;rw[PW hz];rfl
   refine(PW rfl:nrm R ((aC R S,2)::post)=_).trans (rR J ?_);have e:bB ((((aC R S,2):bC×Nat)::post).take 1|>.map (late R))=aC R S:=funext λp=>QR ⟨λo=>by refine am (o) λT Y k=>?_;cases PG.mp Y;exact k,λk=>⟨_,.head _,k⟩⟩;rw[e,iI w];rfl
  refine rR (show nrm R (x::r)=_ from PV G) ?_;by_cases k:x.2=1/\0∈r.map (·.2)
  ·rw[PW k];exact(PV (λh=>VC (show 0=2 from h) dD):nrm R ((iw R x.1,0)::nrm R r)=_).trans (rR (PV λh=>VC (show 0=1 from h.1) dD) (rR (qD w) rfl))
  rw[PV k];exact(PV G:nrm R (x::nrm R r)=_).trans (rR (PV λh=>k ⟨h.1,A4 h.2⟩) (rR (qD w) rfl))
noncomputable def ME:Tm->Nat->Nat|.ro t,_=>ME t 1|_,r=>r
theorem mz:∀{T:Tm}{r:Nat},gw T=true->(aT R T).s r=LP R (aT R T).e (ME T r)
 |.arr _,_,_=>rfl
 |.tup _,_,_=>rfl
 |.ro t,r,h=>mz (T:=t) (r:=1) h
 |.nil,_,h=>VC h PC
 |.cons _ _,_,h=>VC h PC
 |.leaf _,_,h=>VC h PC
 |.uni _,_,h=>VC h PC
 |.int _,_,h=>VC h PC
 |.el _ _,_,h=>VC h PC
theorem Ch:∀{T:Tm}{r:Nat},bu T=true->(aT R T).s r=(aT R T).s 0
 |.nil,_,_=>rfl
 |.cons _ _,_,_=>rfl
 |.leaf _,_,_=>rfl
 |.uni _,_,_=>rfl
 |.int _,_,_=>rfl
 |.arr _,_,h=>VC h PC
 |.tup _,_,h=>VC h PC
 |.ro _,_,h=>VC h PC
 |.el _ _,_,h=>VC h PC
theorem ww:∀{T:Tm},bu T=true->gw T≠true
 |.nil,_=>PC
 |.cons _ _,_=>PC
 |.leaf _,_=>PC
 |.uni _,_=>PC
 |.int _,_=>PC
 |.el _ _,_=>PC
 |.arr _,h=>VC h PC
 |.tup _,h=>VC h PC
 |.ro _,h=>VC h PC
theorem vw:∀x∈jc i,∀y∈jc i,(y=.key "unknown" ->x=y)/\(bn x≠0->y≠.key "string" /\y≠.key "number"):=by
 unfold jc;cases e:yG[i]? with
 |none=>exact bP
 |some L=>exact(by decide+kernel:∀L∈yG,∀x∈L,∀y∈L,(y=.key "unknown" ->x=y)/\(bn x≠0->y≠.key "string" /\y≠.key "number")) L (QO e)
theorem Ae(w:WF R):aC R (LP R es ro)=LP R es ro:=by
 have k:∀{j p x},bZ[j]?=some x->iY x=none->p=j-> ¬LP R es ro p:=λe n z J=>dg J λr l b el _=>by subst z;cases Qh ((w.get e).symm.trans b);exact bY (n.symm.trans el)
 funext p;refine QR ⟨λh=>h.2.1,λh=>⟨λz=>VC z (k (j:=1) rfl rfl rfl),h,λr e n z=>?_⟩⟩;exact(gn n).elim (λe=>k (j:=6) rfl rfl e z) λe=>k (j:=7) rfl rfl e z
theorem k7:aC R (λa=>False)=λa=>False:=funext λp=>QR ⟨λh=>h.2.1,False.elim⟩
theorem m5(w:WF R):∀{T:Tm}{r:Nat},aC R ((aT R T).s r)=(aT R T).s r
 |.nil,_=>k7
 |.cons _ _,_=>k7
 |.el _ _,_=>k7
 |.uni _,_=>iI w
 |.int l,_=>iI (S:=λp=>bB (aT R l).k p/\∀S∈(aT R l).k,∃q,S q/\le R p q) w
 |.arr _,_=>Ae w
 |.tup _,_=>Ae w
 |.ro t,_=>m5 w (T:=t)
 |.leaf i,_=>by
  funext p;refine QR ⟨λh=>h.2.1,λh=>⟨λY=>am Y λy B e=>?_,h,λr e n u=>am u λy B b=>?_⟩⟩
  ·exact am (h) λx j ex=>w.uniq ex (rR ((vw x j y B).1 (Qh (e.symm.trans (w.get (t:=1) rfl)))) e)
  refine am (h) λx j ex=>?_;cases Qh (e.symm.trans ex);exact(gn n).elim (λk=>((vw _ j y B).2 n).1 (Qh (b.symm.trans (k▸w.get (t:=6) rfl)))) λk=>((vw _ j y B).2 n).2 (Qh (b.symm.trans (k▸w.get (t:=7) rfl)))
theorem pi(w:WF R):∀{T:Tm},gw T=true->nrm R (aT R T).e=(aT R T).e
 |.arr t,_=>by show[(aC R (bB [late R ((aT R t).s 0,2)]),2)]=[((aT R t).s 0,2)];exact rR (show bB [late R ((aT R t).s 0,2)]=(aT R t).s 0 from funext λp=>QR ⟨λo=>by refine am (o) λS N k=>?_;cases PG.mp N;exact k,λk=>⟨_,.head _,k⟩⟩) (rR (m5 w) rfl)
 |.tup _,_=>qD w
 |.ro t,h=>pi w (T:=t) h
 |.nil,h=>VC h PC
 |.cons _ _,h=>VC h PC
 |.leaf _,h=>VC h PC
 |.uni _,h=>VC h PC
 |.int _,h=>VC h PC
 |.el _ _,h=>VC h PC
theorem DK:∀{T:Tm},ME T 1=1
 |.ro t=>DK (T:=t)
 |.arr _=>rfl
 |.tup _=>rfl
 |.nil=>rfl
 |.cons _ _=>rfl
 |.leaf _=>rfl
 |.uni _=>rfl
 |.int _=>rfl
 |.el _ _=>rfl
theorem kC(w:WF R){t ro:Nat}{l:V9}(e:R[t]?=some row)(el:iY row=some (l,ro)):∀x∈l,ei R x.1/\x.2<=2:=by
 rcases iD el with rfl|⟨y,rfl,rfl⟩
 ·exactλx h=>have z:=(w.fit _ _ e).1 x h;⟨⟨Q0 z.1 (jW e),z.2.1⟩,z.2.2⟩
 exactλx h=>by exact rR (PG.mp h) ⟨⟨Q0 (w.fit _ _ e).1 (jW e),(w.fit _ _ e).2.1⟩,PD _⟩
theorem Ty.list(w:WF R)(h:Ty R T t)(i:gw T=true):∃row l,R[t]?=some row/\iY row=some (l,ME T 0)/\∀U,d1 R U->bl U l=(aT U T).e:=by
 refine eA (h.li i) λrow g e el=>?_;obtain⟨l,ro⟩:=g;have key:∀U,d1 R U->ro=ME T 0/\bl U l=(aT U T).e:=λU x=>by refine dg ((RT ((j6 x e el rfl).symm.trans ((h.eq U x).trans (mz i))) t).mp ⟨row,l,d5 x.pre e,el,rfl⟩) λk j b Q q=>?_;cases Qh ((d5 x.pre e).symm.trans b);cases Qh (el.symm.trans Q);exact⟨rfl,q⟩
 exact(ng row l e (sB ((key R (.refl w)).1) el) (λU x=>(key U x).2))
end
end
section
variable{c:cR}{g:bM}{b t d n i:Nat}{X:Y8}{σ:Hp}{Q:KV}{l a:Addr}{ns:Z9}{U:Nat->Option Nd}{N k:Nd}{r:Row}{es:V9}
theorem uX(m:ai c)(h:H c g b t X σ)(q:Q (.ref c.tab) σ):kE (aa l ns) "tab" Q (.ref c.n) σ:=aW h.c_n (m.nf _).tab rfl q
theorem xJ(it:cC σ v (es.map pV))(q:Q (.bool (decide (m∈es.map (·.2)))) σ):ad (aa l ns) (d+1) 950 [v,nV m] σ Q:=by
 refine ah (F:=qA) rfl rfl (gO (f:=pV) it (λs ρ u=>∀Z:Prop,(∀w,u=σ->m∉s.map (·.2)->ρ=[some v,some (nV m),w]->Z)->Z) (λZ z=>z none rfl PH rfl) (λs x r e R T ρ u i=>i _ λw A M G=>?_) λρ u i=>i _ λw A M G=>?_)
 ·subst A G;refine⟨it,bx rfl (ag (az (λz=>?_) λz=>T _ _ λZ y=>y _ rfl (λh=>?_) rfl))⟩
  ·rw[Qg (show m∈es.map (·.2) from rR e (P1.mpr (aK x (PK _ (.head _)) z)))] at q;exact q
  rw[PU] at h;exact(P3.mp h).elim M λh=>z (PG.mp h).symm
 subst A G;rw[Qb M] at q;exact⟨it,q⟩
theorem BU(s:ai c)(h:H c g (b+(es.length+(es.length+2))) t X σ)(w:WF g.rows){v:V}(J:Seq X v (es.map pV))(y:∀x∈es,ei g.rows x.1/\x.2<=2)(z:es.length<64){ro:Nat}(j:ro<=1)(hz:(es.flatMap (lw g.rows)).length<64)(q:∀o u row l p,d1 g.rows o->ei o u->o[u]?=some row->iY row=some (l,ro)->bl o l=nrm g.rows (bl g.rows es)->H c (g.wr o) b t X p->Q (nV u) p):
  ad (aa l ns) (d+7) 957 [.ref c.n,v,nV ro] σ Q:=by
 refine ah (F:=oT) rfl rfl (xJ (m:=3) (J.items h) ?_)
 exact(Qe (Qb (show 3∉es.map (·.2) fromλM=>am (P1.mp M) λx A e=>VC (e▸(y x A).2) dD)))▸(af (uX s h (Gs s h w J y z j hz q)))
theorem yX(m:ai c)(h:H c g b t X σ)(e:g.rows[i]?=some r)(j:r.kind≠11)(u:r.kind≠12)(o:r.kind≠6)(q:Q (nV i) σ):ad (aa l ns) (d+1) 1002 [.ref c.n,nV i] σ Q:=
 ah (F:=cJ) rfl rfl (uX m h (dw m h (iT h e (bI (ag (b:=11) (az (λz=>VC z j) λf=>bI (ag (b:=12) (az (λz=>VC z u) λf=>bI (ag (b:=6) (az (λz=>VC z o) λf=>q))))))))))
theorem zr{u:Type}{f:u->List u}:∀{l:List u},(∀j∈l,f j=[j])->l.flatMap f=l:=by
 intro m;induction m with
 |nil=>intro _;exact rfl
 |cons x l ih=>intro h;refine rR QE (rR (h x (.head _)) (rR (ih λj I=>h j (.tail _ I)) ?_));rfl
theorem DH:∀x∈jc i,x.kind≠11/\x.kind≠12/\x.kind≠6:=by
 unfold jc;cases e:yG[i]? with
 |none=>exact bP
 |some L=>exact(by decide:∀L∈yG,∀x∈L,x.kind≠11/\x.kind≠12/\x.kind≠6) L (QO e)
theorem MU{T:Tm}{u:Nat}{l:V9}(Y:gw T=true)(y:d1 R R'')(e:R[u]?=some row)(el:iY row=some (l,1))(m:bl R'' l=(aT R'' T).e)(g:Gd R'' T):Gd R'' (.ro T):=by refine⟨?_,g.e⟩;show VS R'' (if gw T then(0,[cK (val T).e true]) else(val T).v) ((aT R'' T).s 1);refine rR (PW Y) (rR (mz Y) (rR DK ?_));exact uj (ro:=1) y e el m g.e
theorem Mr(B:ai c)(h:H c g (b+130) t X σ)(w:WF g.rows){i:Nat}(C:Ty g.rows T i)(I:gw T=true\/bu T=true)(hp:pb T<64)(hl:∀l,bl g.rows l=(aT g.rows T).e->l.length<64/\(l.flatMap (lw g.rows)).length<64)(q:∀A u v,d1 g.rows A->Ty A (.ro T) u->H c (g.wr A) b t X v->Q (nV u) v):ad (aa l ns) (d+8) 1002 [.ref c.n,nV i] σ Q:=by
 refine RD (I) (λI=>?_) λI=>?_
 ·refine dg (C.list w I) λrow es e el he=>?_;have hl:=hl es (he _ (.refl w));have Za:∀{A u row l v},d1 g.rows A->ei A u->A[u]?=some row->iY row=some (l,1)->bl A l=bl g.rows es->H c (g.wr A) b t X v->Q (nV u) v:=λ{A u row l' v} x o M Y m h'=>
   q A u v x ⟨o,λG y=>(j6 y M Y ((cu y.pre λz hz=>(kC x.wf M Y z hz).1).trans (m.trans ((cu (x.trans y).pre λz hz=>(kC w e el z hz).1).symm.trans (he G (x.trans y)))))).trans ((mz (T:=T) (r:=1) I).trans (rR DK rfl)).symm,λø=>(rS _ _ M Y),λG y=>MU I y M Y (((cu y.pre λz hz=>(kC x.wf M Y z hz).1).trans (m.trans ((cu (x.trans y).pre λz hz=>(kC w e el z hz).1).symm.trans (he G (x.trans y)))))) (C.gd G (x.trans y))⟩ h';rcases iD el with rfl|⟨y,rfl,rfl⟩
  ·refine ah (F:=cJ) rfl rfl (uX B h (dw B h (iT h e (bx rfl (ag (a:=12) (b:=11) (af (bx rfl (ag (a:=12) (b:=12) (aq (bx rfl ?_))))))))));refine BU (ro:=1) B (h.dec (P8 ?_ b)) w (.inl rfl) (kC w e el) hl.1 (PD _) hl.2 λA u row l v x o M Y m h'=>Za x o M Y (m.trans ?_) h'
   ·exact ID (Qu (QL hl.1) (PX (QL hl.1) 2)) dD
   rw[(he _ (.refl w))];exact pi w I
  have f:=w.fit _ _ e;have fr:xZ g.rows g.rows.length (.arr y 1):=⟨Q0 f.1 C.ok.1,f.2.1,PD _⟩;exact ah (F:=cJ) rfl rfl (uX B h (dw B h (iT h e (bx rfl (ag (a:=11) (b:=11) (aq (uX B h (bx rfl (zi (ro:=1) (d:=d+5) (b:=b+129) B h λv h'=>Za ⟨cx,w.put fr⟩ (lp w fr rfl) dz rfl (cu cx λx hx=>(kC w e el x hx).1) (h'.dec (PM _ _)))))))))))
 ·have hs:∀{A u},ei A u->d1 g.rows A->PS A u=PS g.rows i->Ty A (.ro T) u:=λ{A u} o x e=>⟨o,λG y=>by
   exact rR (show(aT G (.ro T)).s 0=(aT G T).s 0 from Ch I) (sB (C.eq G (x.trans y)) (rR (dT y.pre o.1) (rR e (rR (dT (x.trans y).pre C.ok.1) rfl)))),λz=>VC z (ww (T:=T) I),λG y=>⟨(show VS G (if gw T then _ else(val T).v) ((aT G T).s 1) by simp only[PV (ww I),Ch I];exact(C.gd G (x.trans y)).v),(C.gd G (x.trans y)).e⟩⟩
  have rows:∀p,PS g.rows i p->∃x,g.rows[p]?=some x/\x.kind≠11/\x.kind≠12/\x.kind≠6:=λp hp=>by rw[C.eq _ (.refl w)] at hp;exact eA ((dX I).1 p hp) λx j hx e=>(aK x e (DH x hx))
  have rH:=q g.rows i σ (.refl w) (hs C.ok (.refl w) rfl) (h.dec (PM _ _));rcases bG w i with rfl|⟨m,e,em⟩|⟨n2,nu,e1⟩
  ·exact yX (d:=d+7) B h (w.get (t:=2) rfl) dD dD dD rH
  ·have Yv:m.length<64:=sB em (PJ (C.parts w) hp);have hm:∀j∈m,PS g.rows i j:=λj J=>(em▸J:j∈ae g.rows i);have J:∀j∈m,ae g.rows j=[j]:=λj J=>have z:=w.parts C.ok (hm j J);bf z.2.1 z.2.2
   refine ah (F:=cJ) rfl rfl (uX B h (dw B h (iT h e (bx rfl (ag (a:=6) (b:=11) (af (bx rfl (ag (a:=6) (b:=12) (af (bx rfl (ag (a:=6) (b:=6) (aq (uX B h (bx rfl ?_))))))))))))));refine wG (f:=nV) nV .tup (ID (P2 Yv) dD) (λj L R hR=>EY (rows j (hm j L)) λx ex k1 k2 k3=>yX (d:=d+6) B h ex k1 k2 k3 hR) λa ha=>mD (d:=d+4) (b:=b+129) B (h.new (o:=.list (m.map nV)) ha) w (.inr (aK a rfl (.head _))) (λj J=>(w.parts C.ok (hm j J)).1) (rR (zr J) Yv) λA u v x o s h2=>q A u v x (hs o x (s.trans ?_)) (h2.tail.dec (PM _ _));rw[show(λp=>∃j∈m,PS g.rows j p)=PS g.rows i from funext λp=>QR ⟨λz1=>am (z1) λj L k=>PG.mp (J j L▸k:p∈[j])▸hm j L,λk=>(aK p (em▸k:p∈m) (J p (em▸k)▸ .head _:p∈ae g.rows p))⟩];exact w.norm C.ok
  ·exact EY (rows i (rR e1 (.head _):i∈ae g.rows i)) λx e k1 k2 k3=>yX (d:=d+7) B h e k1 k2 k3 rH
end
noncomputable def wE:ja->Nat->Prop
 |[],_=>True
 |x::r,n=>∃k j,k9 x.1 k/\wE r j/\k+(if x.2=1 then 1 else 0)+j<=n
theorem Fa:∀{es:ja}{n m:Nat},wE es n->n<=m->wE es m:=by
 intro l;induction l with
 |nil=>intro _ _ _ _;exact trivial
 |cons _ _ ih=>intro _ _ h e;exact dg h λk j a b z=>ng k j a b (ID z e)
theorem JX(C:wE es n)(h:wE fs m):wE (es++fs) (n+m):=by
 induction es generalizing n with
 |nil=>exact Fa h (Qp ..)
 |cons x r ih=>exact dg C λk j a b z=>ng k (j+m) a (ih b) (ID (PI (QH ..).symm) (PX z m))
theorem FT(w:WF R)(h:wE (bl R l) n):(l.flatMap (lw R)).length<=n:=by
 induction l generalizing n with
 |nil=>exact PY _
 |cons x l ih=>
  refine dg h λk j a b z=>rR QE (rR PQ (ID (Qu ?_ (ih b)) z));unfold lw;by_cases m:x.2=1
  ·exact rR (PW m) (rR (PW m) (Qn (eO w a)))
  exact rR (PV m) (rR (PV m) (eO w a))
theorem tC(h:k9 x.1 k):k9 (late R x) (k+(if x.2=1 then 1 else 0)):=by
 unfold late;by_cases m:x.2=1
 ·exact rR (PW m) (rR (PW m) (dM (u0 h (S':=λp=>p=4) (m:=1) ⟨[4],PD _,λp e=>sB e (.head _)⟩) (λp v=>v.2.1) (PD _)))
 exact rR (PV m) (rR (PV m) h)
theorem JK(k:Nat)(h:wE es n):∃a b,k9 (bB ((es.take k).map (late R))) a/\wE (es.drop k) b/\a+b<=n:=by
 have none:k9 (bB []) 0:=⟨[],PD _,λp z=>am z λS N _=>VC N PH⟩;induction es generalizing n k with
 |nil=>cases k<;>exact ng 0 n none h (PI (Rh _))
 |cons x r ih=>cases k with
  |zero=>exact ng 0 n none h (PI (Rh _))
  |succ k=>exact dg h λi j a b z=>dg (ih k b) λt b' c d e=>ng _ b' (dM (u0 (tC a) c) (λp w=>am (w) λS N s=>(P0.mp N).elim (λe=>.inl (sB e s)) λN=>.inr ⟨S,N,s⟩) (PD _)) d (ID (PI (QH ..)) (ID (P8 e _) z))
theorem wK(h:m≠0):1<=ak (m::s):=by
 show 1<=if ak s=0 then(if m=0 then 0 else 1) else ak s+1;by_cases z:ak s=0
 ·refine rR (PW z) (rR (PV h) ?_);exact PD _
 exact rR (PV z) (Ra _)
theorem Cs:∀{es:ja}{n:Nat},wE es n->wE (nrm R es) n/\(nrm R es).length<=es.length:=by
 intro l;induction l with
 |nil=>intro _ _;exact⟨trivial,PD _⟩
 |cons x r ih=>
  intro n h;by_cases G:x.2=2
  ·refine rR (show nrm R (x::r)=_ from PW G) ?_;have w:1<=ak ((x::r).map (·.2)):=wK (λe=>VC (G.symm.trans e) dD);generalize ak ((x::r).map (·.2))=k at*;refine dg (JK (R:=R) k h) λa b t A o=>⟨⟨a,b,dM t (λp w=>w.2.1) (PD _),A,o⟩,?_⟩;exact rR RI (rR Rr (ID (PX (S6 w _) 1) (PI (Q5 (Ra _)))))
  refine rR (show nrm R (x::r)=_ from PV G) (dg (h) λk j y v z=>⟨?_,Qn (ih v).2⟩);by_cases m:x.2=1/\0∈r.map (·.2)
  ·refine rR (PW m) ?_;rw[PW m.1] at z;have T:=tC (R:=R) (x:=x) y;rw[PW m.1,show late R x=iw R x.1 from PW m.1] at T;exact⟨k+1,j,T,(ih v).1,z⟩
  exact rR (PV m) ⟨k,j,y,(ih v).1,z⟩
theorem fm(w:WF R):∀T:Tm,wE (aT R T).e (eb T)/\(aT R T).e.length<=en T
 |.nil=>⟨trivial,PD _⟩
 |.cons a r=>⟨JX (fm w a).1 (fm w r).1,ID (PI PQ) (Qu (fm w a).2 (fm w r).2)⟩
 |.leaf _=>⟨trivial,PD _⟩
 |.uni _=>⟨trivial,PD _⟩
 |.int _=>⟨trivial,PD _⟩
 |.arr t=>⟨⟨pb t,0,(dl w t).1 0,trivial,PD _⟩,PD _⟩
 |.tup l=>have h:=Cs (R:=R) (fm w l).1;⟨h.1,ID h.2 (fm w l).2⟩
 |.ro t=>fm w t
 |.el s t=>by
  show wE (if s=2 then(aT R t).e else[((aT R t).s 0,s)]) (if s=2 then eb t else _)/\(if s=2 then(aT R t).e else[((aT R t).s 0,s)]).length<=if s=2 then en t else 1;by_cases m:s=2
  ·exact rR (PW m) (rR (PW m) (rR (PW m) (fm w t)))
  exact rR (PV m) (rR (PV m) (rR (PV m) ⟨⟨pb t,0,(dl w t).1 0,trivial,PD _⟩,PD _⟩))
theorem j5(w:WF R)(h:bl R l=(aT R T).e):l.length<=en T/\(l.flatMap (lw R)).length<=eb T:=
 ⟨(PL (as:=l) (λx=>(PS R x.1,x.2)))▸(PR List.length h▸(fm w T).2:(bl R l).length<=_),FT w (h▸(fm w T).1)⟩
end
section
variable{c:cR}{g:bM}{b t d n i:Nat}{X:Y8}{σ:Hp}{Q:KV}{l a:Addr}{ns:Z9}{U:Nat->Option Nd}{N k:Nd}{R:List Row}{r:Row}{es:V9}
theorem zw(w:ai c)(h:H c g (b+1) t X σ)(G:Go g U)(J:(n,at_)∈g.wt)(q:∀s o,Go s U->Gr g s 0->s.types=g.types->(n,at_)∈cW s->H c s b t X o->Q .none o):ad (aa l ns) (d+4) 750 [.ref c.n,nV n,nV at_,.tup []] σ Q:=
 JS w h λdr o e h'=>by
  rcases e with ⟨rfl,m⟩|⟨m,x,dx,rfl⟩
  ·exact q g o G .refl rfl m h'
  have M:cW {g with dr:=g.dr++[(x,dx,n,at_)]}=cW g++[(n,at_)]:=PU;have u:∀y∈cW g,y∈cW {g with dr:=g.dr++[(x,dx,n,at_)]}:=λy B=>rR M (PZ _ B);exact q {g with dr:=g.dr++[(x,dx,n,at_)]} o ⟨G.wf,G.pos,λp v=>nR (G.cache p v) λN e f z=>(oW N e f (λy B=>u y (z y B))),M▸bh G.sub J,M▸Q8.mpr ⟨G.nd,QK.mpr ⟨PH,.nil⟩,λy B z hz e=>m (PG.mp hz▸e▸B)⟩⟩
   ⟨Ry _,rfl,rfl,rfl,rfl,u,λp v=>.inl v,λp v=>v⟩ rfl (rR M (PK _ (.head _))) h'
noncomputable def HA:Nd->Bool|.par _ _=>true|_=>false
def Oj(k:Nd)(kind:Nat):Bool:=decide (kind∈[85,86])==iZ k&&(decide (kind=98)==HA k&&decide (kind≠93))
theorem HM(o:one k=true)(h:fB X k [y])(Z:Prop)(z:∀kind av ks fl n dx f,At X y kind av ks fl n dx f->Oj k kind=true->Z):Z:=by cases k<;>first|exact VC o PC|exact h Z λks dx f a j=>z _ _ _ _ _ _ _ a rfl|exact h Z λdx f a=>z _ _ _ _ _ _ _ a rfl|exact h.elim (λe=>e Z λw t dx f j a=>z _ _ _ _ _ _ _ a rfl) λe=>e Z λks dx f a j=>z _ _ _ _ _ _ _ a rfl
theorem Ow{b k:Nat}:b+131+k+1=b+(k+132):=(PR (· +1) (Qy b 131 k)).trans (QH b k 132)
theorem KJ(o:ai c)(hk:ph c l ns U k):ph c l ns U (.ro n k):=λ{D d g b t X σ Q a} eD A q=>A.is _ λks dx ka at_ is=>by
 subst eD;refine N6 A.ok λok o1 hL J I w=>jn (jI o1 is) λy p=>?_;subst p;refine js (d:=d+fu k+13) (b:=b) o A.h A.go A.sub.1 (PM ..) at_ o.r97 rfl (zT A.lv).2 q λWa Q1 C M Y=>?_;have rest:∀h B,Go h U->Gr (g.dp (g.deep+1)) h 0->h.types=g.types->(∀x∈(if iZ k then[] else[(1354,n)]),x∈cW h)->H c h (b+131+co k) t X B->
   fS (aa l ns) (ad (aa l ns) (d+fu k+12)) (.seq (.ret (.call 1002 "readonly_kind" (.cons (.var 1) (.cons (.meth (.var 1) "type_of" (.cons (.item (.attr (.var 2) "kids") (.lit (.int 0))) .nil)) .nil)))) .nil) [some (.ref (c.ru 97)),some (.ref c.n),some (.ref a)] B (fJ Q1):=λh B G2 s et told j=>
  eh j.c_n (o.nf _).type_of rfl (gM j at_ (cm (i:=0) (j.loc at_.ks) dD rfl (hk (d:=d+12) (b:=b+131) (Qy ..) ⟨j,G2,A.sub.2,A.old.2,ok,is,λx L=>s.wt▸A.tl x (PK _ L),s.deep▸(zT A.lv).1,et▸A.rf⟩ λT u v r=>
   Mr (d:=d+fu k+4) (b:=b+1) o r.h r.go.wf r.ty hL w (λl e=>have z:=j5 r.go.wf e;⟨PJ z.1 J,PJ z.2 I⟩) λR' u' Xa x ty h3=>
    Y _ _ _ _ A.old.1 ⟨r.go.wr x,(s.trans r.gr (PY _) (PD _)).trans (.wr x) (PD _) (PD _),ty,λz hz=>(P3.mp hz).elim (λm=>r.gr.told z (told z m)) (r.told z),h3⟩)));refine HM o1 is _ λkind av ks fl n' dx' ka' G ch=>?_;have f:=Qd.mp (vB ch).1;refine ah (F:=fL) rfl rfl (gM C at_ (cm (i:=0) (C.loc at_.ks) dD rfl (ca C G (DY (Hm (ms:=[85,86])) (cD (λm=>?_) λm=>?_)))))
 ·have nr:iZ k=false:=f.symm.trans ((QD _).mp m);replace rest:=nr▸rest;refine aW (C.loc at_.nd) rfl rfl (zw (d:=d+fu k+8) (b:=b+131+co k) o (C.dec (PI ?_)) M (A.tl _ (PZ _ ((Qe nr)▸(.head _)))) λT v G' s er m' h'=>wExpr rfl (rest T v G' s ?_ (λx L=>PG.mp L▸m') h'))
  ·exact Ow
  exact er
 have nr:iZ k=true:=f.symm.trans ((SI _).mp m);replace rest:=nr▸rest;exact rest _ _ M .refl rfl bP (C.dec (ID (Qt _) (PI Ow)))
section
variable{kind fl:Nat}{av:V}{ks:List Addr}{dx Y:Addr}
theorem Do:∀s,s<=2->∀m,m<=2->Builtin.bitAnd (iV s:Nat) (iV m:Nat)=if s=m then(iV m:Nat) else 0:=by decide
theorem p9(h:H c g b t X σ)(at_:At X a kind av ks (iV s) n dx Y)(hs:s<=2)(M:m=1\/m=2)(q:Q (.bool (decide (s=m))) σ):ad (aa l ns) (d+1) 56 [.ref a,nV (iV m)] σ Q:=by
 refine ah (F:=HN) rfl rfl (aW (h.loc at_.nd) rfl rfl (da (.and ?_)));refine rR (Do s hs m (M.elim (λe=>rR e dD) λe=>sB e (PD _):m<=2)) ?_;by_cases e:s=m
 ·refine rR (PW e) (oe (b:=0) (rR (Qg (M.elim (λe=>rR e dD) λe=>rR e dD)) ?_));rw[Qg e] at q;exact q
 refine rR (PV e) (oe (a:=0) (b:=0) ?_);rw[Qb e] at q;exact q
theorem BO(h:H c g b t X σ)(q:∀y kind av ks fl n dx Y,At X y kind av ks fl n dx Y->kind≠93->K .next [some (.ref c.n),some (.ref y),some u,none] σ):∀{k:Nd}{y:Addr},one k=true->tK k->fB X k [y]->
  ∃m,jV (cP (aa l ns) (ad (aa l ns) d) fp) (fS (aa l ns) (ad (aa l ns) d) fz) K m [some (.ref c.n),some (.ref y),some u,none] σ:=by
 have s:∀{k:Nd}{y:Addr},one k=true->fB X k [y]->HA k=false->∃m,jV (cP (aa l ns) (ad (aa l ns) d) fp) (fS (aa l ns) (ad (aa l ns) d) fz) K m [some (.ref c.n),some (.ref y),some u,none] σ:=λo is w=>
  HM o is _ λkind av ks fl n dx Y e j=>by refine⟨1,ca h e (ag (b:=98) ?_)⟩;exact rR ((Qd.mp (vB (vB j).2).1).trans w) (af (q _ _ _ _ _ _ _ _ e (P9 (vB (vB j).2).2)))
 intro k
 induction k with
 |par n k p=>intro y _ z is;refine is _ λks dx Y e is=>jn (jI z.2 is) λx v=>?_;subst v;obtain⟨m,M⟩:=p z.2 z.1 is;exact⟨m+1,ca h e (ag (a:=98) (b:=98) (aq (gM h e (cm (i:=0) (h.loc e.ks) dD rfl M))))⟩
 |_=>exactλo f is=>s o is rfl
theorem Fz(h:H c g b t X σ)(o:one k=true)(x:tK k)(is:fB X k [y])(q:Q .none σ):ad (aa l ns) (d+1) 792 [.ref c.n,.ref y,nV u] σ Q:=by refine ah (F:=kQ) rfl rfl (BO (u:=nV u) h (λy kind av ks fl n dx Y e p=>?_) o x is);exact ca h e (ag (b:=93) (az (λz=>VC z p) λf=>az (λz=>VC z p) λf=>q))
end
end
structure Na(c:cR)(g:bM)(U:Nat->Option Nd)(N:Nd)(j b t:Nat)(X:Y8)(g':bM)(es:V9)(o:Addr)(σ:Hp):Prop where
 go:Go g' U
 gr:Gr g g' j
 ok:∀x∈es,ei g'.rows x.1/\x.2<=2
 ty:∀R',d1 g'.rows R'->bl R' es=(aT R' (ex N)).e
 told:∀x∈tl N,x∈cW g'
 gd:∀R',d1 g'.rows R'->Gd R' (ex N)
 h:H c g' b t ((o,.list (es.map pV))::X) σ
section
variable{c:cR}{g:bM}{b t d n i s:Nat}{X:Y8}{σ:Hp}{Q:KV}{l a:Addr}{ns:Z9}{U:Nat->Option Nd}{N k:Nd}{R:List Row}{r:Row}{es:V9}
theorem Fe:(aT R (.el 2 T)).e=(aT R T).e:=rfl
theorem yz(h:s≠2):(aT R (.el s T)).e=[((aT R T).s 0,s)]:=PV h
theorem Fu{D:Nat}(eD:D=d+fu k+5)(B:ai c)(hk:ph c l ns U k)(A:L7 c g (b+co (.el n s k)) t X σ U (.el n s k) [a])(cd:en (ex (.el n s k))<64)(q:∀J es o p,Na c g U (.el n s k) (lc k) b t X J es o p->Q (.ref o) p):ad (aa l ns) D 964 [.ref c.n,.ref a] σ Q:=A.is _ λks dx ka at_ is=>by
 subst eD
 refine EG (A.ok) λok o1 T hL=>jn (jI o1 is) λy L=>?_;subst L
 have h:=A.h
 have ask:∀{g1 I},Go g1 U->Gr g g1 0->H c g1 (b+co k) t X I->g1.types=g.types->L7 c g1 (b+co k) t X I U k [y]:=λG gr C et=>⟨C,G,A.sub.2,A.old.2,ok,is,λx hx=>gr.wt▸A.tl x hx,gr.deep▸A.lv,et▸A.rf⟩
 refine ah (F:=rz) rfl rfl (p9 (m:=2) h at_ T (.inr rfl) (az (λe=>?_) λne=>?_))
 ·subst e;have w:=A.go.wf;have f:xZ g.rows g.rows.length (.arr 1 0):=⟨P5 dD w.len,⟨by decide,by decide,by decide,by decide,by decide⟩,PY _⟩;have x:d1 g.rows (dR g.rows (.arr 1 0)):=⟨cx,w.put f⟩;refine gM h at_ (cm (i:=0) (h.loc at_.ks) dD rfl (uX B h (zi (e:=1) (ro:=0) (d:=d+fu k+2) (b:=b+co k) B h λI C=>Fz (d:=d+fu k+3) C o1 ok is (wExpr rfl ?_))));refine ah (F:=jN) rfl rfl (aW C.c_n (B.nf (g.wr (dR g.rows (.arr 1 0))).deep).host rfl (eh C.c_host B.ho_force rfl (eh C.c_n (B.nf (g.wr (dR g.rows (.arr 1 0))).deep).type_of rfl (gM C at_ (cm (i:=0) (C.loc at_.ks) dD rfl (hk (d:=d+3) (Qy ..) (ask (A.go.wr x) (.wr x) C rfl) λJ u p r=>ah (F:=mS) rfl rfl ?_))))));refine dg (r.ty.list r.go.wf (hL rfl)) λrow es e el he=>?_;have Y:∀o j,H c J b t ((o,.list (es.map pV))::X) j->Q (.ref o) j:=λo j h3=>q J es o j ⟨r.go,(Gr.wr x).trans r.gr (PY _) (PD _),(kC r.go.wf e el),λz x=>(he z x).trans (Fe).symm,r.told,λz x=>⟨ke λø h=>h,(r.ty.gd z x).e⟩,h3⟩;refine uX B r.h (dw B r.h (iT r.h e ?_));rcases iD el with rfl|⟨v,rfl,rfl⟩
  ·have hl:es.length<64:=PJ (j5 r.go.wf (he _ (.refl r.go.wf))).1 (PJ (PI (PW rfl:en (.el 2 (ex k))=en (ex k)).symm) cd);exact bx rfl (ag (a:=12) (b:=11) (af (bx rfl (ag (a:=12) (b:=12) (aq (bx rfl (wG (f:=pV) pV .tup (ID (P2 hl) dD) (λx ø R hR=>hR) λo M=>Y o _ (r.h.new M))))))))
  exact bx rfl (ag (a:=11) (b:=11) (aq (bx rfl λo M=>Y o _ (r.h.new M))))
 ·have rest:fS (aa l ns) (ad (aa l ns) (d+fu k+4)) (.seq (.ret (.list (.cons (.tup (.cons (.meth (.var 0) "type_of" (.cons (.item (.attr (.var 1) "kids") (.lit (.int 0))) .nil)) (.cons (.var 2) .nil))) .nil))) .nil) [some (.ref c.n),some (.ref a),some (nV s)] σ (fJ Q):=
   eh h.c_n (B.nf _).type_of rfl (gM h at_ (cm (i:=0) (h.loc at_.ks) dD rfl (hk (d:=d+4) (Qy ..) (ask A.go .refl (h.dec (Qt _)) rfl) λJ u p r o M=>
    q J [(u,s)] o _ ⟨r.go,r.gr,λx hx=>by refine rR (PG.mp hx) ?_;exact⟨r.ty.ok,T⟩,λz x=>(PR (λS=>[(S,s)]) (r.ty.eq z x)).trans (yz ne).symm,r.told,λz x=>⟨ke λø h=>h,(show EV z (if s=2 then _ else _) (if s=2 then _ else _) by exact(Qe (PV ne))▸((Qe (PV ne))▸⟨_,_,rfl,(r.ty.gd z x).v,rfl⟩))⟩,r.h.new M⟩)));refine p9 (m:=1) h at_ T (.inl rfl) (az (λe1=>?_) λn1=>?_)
  ·subst e1;exact rest
  have e0:s=0:=Vx.mp (QL (QN (QL (QN T ne)) n1));subst e0;exact rest
section
variable{kind fl:Nat}{av:V}{ks:List Addr}{dx Y:Addr}
theorem xb{r:oX}{x y:Bool}(h:x=true->r ρ σ Q)(k:Q (.bool (x&&y)) σ):jG false r ρ Q (.bool x) σ:=by
 induction x
 ·exact af k
 exact aq (h rfl)
theorem FG(h:H c g b t X σ)(at_:At X a kind av ks (iV s) n dx Y)(hs:s<=2){o:Addr}(j:σ o=some (.list (es.map pV))){rest u:Bool}(q:Q (nV (cE s (decide (2∈es.map (·.2))) rest u)) σ):
  ad (aa l ns) (d+2) 971 [.ref a,.ref o,.bool rest,.bool u] σ Q:=by
 unfold cE at q
 refine ah (F:=kF) rfl rfl ?_
 have M:∀{K:KV},K (.bool (rest&&(decide (s=2)&&decide (2∈es.map (·.2))))) σ->cP (aa l ns) (ad (aa l ns) (d+1)) (.and (.cons (.var 2) (.cons (.call 56 "has" (.cons (.var 0) (.cons (.glob "F_REST" (.int 8192)) .nil))) (.cons (.call 950 "has_mark" (.cons (.var 1) (.cons (.glob "E_REST" (.int 2)) .nil))) .nil)))) [some (.ref a),some (.ref o),some (.bool rest),some (.bool u)] σ K:=λ{K} k=>
  xb (λe=>by subst e;exact p9 (m:=2) h at_ hs (.inr rfl) (xb (λe=>by rw[e] at k;exact xJ (m:=2) (.list j) k) k)) k
 have T:∀{K:KV},K (.bool (rest&&decide (s=1))) σ->cP (aa l ns) (ad (aa l ns) (d+1)) (.and (.cons (.var 2) (.cons (.call 56 "has" (.cons (.var 0) (.cons (.glob "F_OPT" (.int 4096)) .nil))) .nil))) [some (.ref a),some (.ref o),some (.bool rest),some (.bool u)] σ K:=λ{K} k=>
  xb (λe=>by subst e;exact p9 (m:=1) h at_ hs (.inl rfl) k) k
 have z:∀{K:KV},K (.bool (u&&(!decide (s=1)&& !decide (s=2)))) σ->cP (aa l ns) (ad (aa l ns) (d+1)) (.and (.cons (.var 3) (.cons (.not (.call 56 "has" (.cons (.var 0) (.cons (.glob "F_OPT" (.int 4096)) .nil)))) (.cons (.not (.call 56 "has" (.cons (.var 0) (.cons (.glob "F_REST" (.int 8192)) .nil)))) .nil)))) [some (.ref a),some (.ref o),some (.bool rest),some (.bool u)] σ K:=λ{K} k=>
  xb (λe=>by subst e;exact p9 (m:=1) h at_ hs (.inl rfl) (D4 (xb (λe=>by rw[e] at k;exact p9 (m:=2) h at_ hs (.inr rfl) (D4 k)) k))) k
 refine M (cD (λe=>?_) λe=>T (cD (λG=>?_) λG=>z (cD (λB=>?_) λB=>?_)))
 ·rw[PW e] at q;exact q
 ·rw[PV (Qv.mp e),PW G] at q;exact q
 ·rw[PV (Qv.mp e),PV (Qv.mp G),PW B] at q;exact q
 ·rw[PV (Qv.mp e),PV (Qv.mp G),PV (Qv.mp B)] at q;exact q
end
end
section
variable{R:List Row}
theorem FP:∀{es:ja},2∈(nrm R es).map (·.2)↔2∈es.map (·.2):=by
 intro l;induction l with
 |nil=>exact Ul
 |cons x r ih=>
  by_cases G:x.2=2
  ·exact rR (show nrm R (x::r)=_ from PW G) (iff_of_true (.head _) ((Qe (G))▸(.head _)))
  have c:∀{y:bC×Nat},y.2≠2->(2∈(y::nrm R r).map (·.2)↔2∈(x::r).map (·.2)):=λB=>
   (P0.trans (S0 (SX B))).trans (ih.trans (P0.trans (S0 (SX G))).symm);refine rR (show nrm R (x::r)=_ from PV G) ?_;by_cases m:x.2=1/\0∈r.map (·.2)
  ·exact rR (PW m) (c (λh=>VC (show 0=2 from h) dD))
  exact rR (PV m) (c G)
theorem lj:∀{T:Tm},2∈(aT R T).e.map (·.2)↔br T=true
 |.nil=>TX PH PC
 |.cons a r=>by exact rR PU (P3.trans ((or_congr lj lj).trans Qw.symm))
 |.leaf _=>TX PH PC
 |.uni _=>TX PH PC
 |.int _=>TX PH PC
 |.arr _=>iff_of_true (.head _) rfl
 |.tup l=>FP.trans (lj (T:=l))
 |.ro t=>lj (T:=t)
 |.el s t=>by
  by_cases m:s=2
  ·subst m;exact lj (T:=t)
  exact rR (yz m) (TX (λh=>m (PG.mp h).symm) λh=>m (Qd.mp (vB h).1))
end
structure N5(c:cR)(g:bM)(U:Nat->Option Nd)(all:List Nd)(j b t:Nat)(X:Y8)(e0:Addr)(td op:Bool)(es:V9)(g':bM)(s r:List (Nd×Addr))(σ:Hp):Prop where
 go:Go g' U
 gr:Gr g g' j
 ok:∀x∈es,ei g'.rows x.1/\x.2<=2
 ty:∀R',d1 g'.rows R'->bl R' es=s.flatMap λp=>(aT R' (ex p.1)).e
 told:∀p∈s,∀x∈tl p.1,x∈cW g'
 gd:∀R',d1 g'.rows R'->∀p∈s,Gd R' (ex p.1)
 no:td=false->oI all false false=oI (r.map (·.1)) (decide (2∈es.map (·.2))) op
 yes:td=true->∀x∈oI all false false,x∈cW g'
 h:H c g' (b+130+(if td then 0 else 1)+cs r) t ((e0,.list (es.map pV))::X) σ
theorem At.mono(h:∀p∈X,p∈Y){a:Addr}{av:V}{ks:List Addr}{dx f:Addr}(e:At X a kind av ks fl n dx f):At Y a kind av ks fl n dx f:=⟨h _ e.nd,h _ e.ks⟩
theorem One.mono(h:∀p∈X,p∈Y){kind fl n:Nat}{P u:List Addr->Prop}(v:∀as,P as->u as):∀{as:List Addr},One X kind fl n P as->One Y kind fl n u as
 |[_],e=>λZ z=>e Z λks dx f a p=>z ks dx f (a.mono h) (v ks p)
theorem yx.mono(h:∀p∈X,p∈Y){i:Nat}:∀as,FK X i as->FK Y i as
 |[k],e=>by
  have e:yx X i k:=e;show yx Y i k;cases e with
  |fls e=>exact .fls (e.mono h)
  |tru e=>exact .tru (e.mono h)
  |num e=>exact .num (e.mono h)
  |neg z e G=>exact .neg z (e.mono h) (G.mono h)
  |str z o e=>exact .str z o (e.mono h)
theorem DS.mono(h:∀p∈X,p∈Y){n i:Nat}:∀{as:List Addr},DS X n i as->DS Y n i as
 |[_],e=>λZ z=>e Z λw t dx f m a=>z w t dx f m (a.mono h)
theorem Ej.mono(h:∀p∈X,p∈Y){n:Nat}:∀{as:List Addr},Ej X n as->Ej Y n as
 |[_],e=>λZ z=>e Z λdx f a=>z dx f (a.mono h)
set_option tactic.hygienic true in
theorem fT(h:∀p∈X,p∈Y):∀as,fB X N as->fB Y N as:=by
 induction N with
 |nil=>exactλas e=>e
 |cons a r iha ihr=>exactλas o=>by exact dg (o) λx xs e A M=>⟨x,xs,e,iha _ A,ihr _ M⟩
 |leaf n i=>exactλas e=>e.imp (DS.mono h) (One.mono h (yx.mono h))
 |ref n k=>exactλas e=>Ej.mono h e
 |_=>rename_i l;exactλas e=>One.mono h l e
theorem xf(h:Bb N=true):∃n s k,N=.el n s k:=by cases N<;>first|exact VC h PC|exact M7 _ _ _ rfl
theorem Am(e:R<+:R')(w:WF R):∀{es:ja},(∀x∈es,Bd R x.1)->nrm R' es=nrm R es
 |[],_=>rfl
 |x::r,h=>by
  by_cases G:x.2=2
  ·refine rR (show nrm R (x::r)=_ from PW G) (rR (show nrm R' (x::r)=_ from PW G) ?_);exact rR (QM λy B=>xt e w (h y ((λy B=>QP B:∀{k},∀y∈(x::r).take k,y∈x::r) y B))) (rR (dL e λp v=>am (jR.mp v) λy B k=>zP w (h y ((λy B=>QP B:∀{k},∀y∈(x::r).take k,y∈x::r) y B)) p k) rfl)
  exact rR (show nrm R (x::r)=_ from PV G) (rR (show nrm R' (x::r)=_ from PV G) (rR (Am e w λy B=>h y (.tail _ B)) (rR (show iw R' x.1=iw R x.1 from dL e (mW w (h x (.head _)))) rfl)))
theorem Ah(h:eH L=true):(aT R (ex L)).e=(lst L).flatMap λx=>(aT R (ex x)).e:=by
 induction L with
 |cons a r _ ih=>exact PR ((aT R (ex a)).e++ ·) (ih (vB h).2)
 |nil=>rfl
 |_=>exact VC h PC
theorem Lx(h:eH L=true):(∀x∈lst L,Gd R (ex x))->EV R (aT R (ex L)).e (val (ex L)).e:=by
 induction L with
 |cons a r _ ih=>exactλz=>JU (z a (.head _)).e (ih (vB h).2 λx i=>z x (.tail _ i))
 |nil=>exactλb=>rfl
 |_=>exact VC h PC
section
variable{c:cR}{l:Addr}{ns:Z9}{U:Nat->Option Nd}{k:Nd}{n:Nat}
section
variable{g:bM}{b t d i s kind fl:Nat}{X:Y8}{σ:Hp}{Q:KV}{a dx T:Addr}{N:Nd}{R:List Row}{r:Row}{es:V9}{av:V}{ks:List Addr}
theorem kh{r:oX}{x y:Bool}(h:x=false->Q (.bool y) σ->r ρ σ Q)(k:Q (.bool (x||y)) σ):jG true r ρ Q (.bool x) σ:=by
 induction x
 ·exact af (h rfl k)
 exact aq k
theorem B3(ck:ai c){L:Nd}(il:eH L=true)(ll:(lst L).length<=100)(el:∀x∈lst L,Bb x=true)(hk:∀n s k,Nd.el n s k∈lst L->ph c l ns U k/\fu k<=M/\lc k<=j)(A:L7 c g (b+131+co L) t X σ U L ks)(hf:∀x∈oI (lst L) false false,x∈g.wt)(cd:en (ex L)<64)(Zp:eb (ex L)<64)(at_:At X a kind av ks fl n dx T)(q:∀g' u ma,Go g' U->Gr g g' j->Ty g'.rows (.tup (ex L)) u->(∀x∈oI (lst L) false false++tl L,x∈cW g')->H c g' b t X ma->Q (nV u) ma):ad (aa l ns) (M+8) 978 [.ref c.n,.ref a] σ Q:=by
 refine nR (C4 il A.is) λxs WI e2 Xv=>?_;subst WI
 have hx:∀p∈xs,p.1∈lst L:=λp hp=>rR e2 (P1.mpr ⟨p,hp,rfl⟩)
 have P:=λ(P:Nd->Prop) (h:∀a r,P (.cons a r)->P a/\P r) {p} (hp:p∈xs)=>lO h (hx p hp)
 have h0:=A.h
 replace h0:=((Cj il e2))▸h0
 have hlx:xs.length<=100:=by refine sB (PL (as:=xs) (·.1)) (sB e2 ?_);exact ll
 refine ah (F:=mi) rfl rfl λe0 YI=>gM (h0.new (o:=.list []) YI) ⟨.tail _ at_.nd,.tail _ at_.ks⟩ ?_
 have mk:(T,O.list (xs.map λp:Nd×Addr=>V.ref p.2))∈X:=sB (QA (f:=λp:Nd×Addr=>p.2) (g:=V.ref) (l:=xs)) at_.ks
 refine gO (f:=λp:Nd×Addr=>V.ref p.2) (.list ((h0.new (o:=.list []) YI).loc (.tail _ mk))) (λs ρ σ=>∀Z:Prop,(∀g1 es td op w5 w6 w7,ρ=[some (.ref c.n),some (.ref a),some (.ref e0),some (.bool td),some (.bool op),w5,w6,w7]->N5 c g U (lst L) j b t X e0 td op es g1 s (xs.drop s.length) σ->Z)->Z)
  (λZ z=>z g [] false false _ _ _ rfl ⟨A.go,.refl,bP,λv v=>rfl,bP,λv v p h=>VC h PH,λv=>by refine rR e2 ?_;rfl,λh=>VC h PC,(h0.new (o:=.list []) YI)⟩) (λs x r e R hR ρ σ i=>i _ λg1 es td op w5 w6 w7 er I=>?_) λρ σ i=>i _ λg1 es td op w5 w6 w7 er I=>?_
 ·rw[er];have w:x∈xs:=rR e (PK _ (.head _));obtain⟨N,y⟩:=x;have hN:=hx _ w;refine k6 (xf (el _ hN)) λn1 s1 k ZI=>?_;subst ZI;refine DP (hk _ _ _ hN) λtk fk jk=>jn (HF fk) λm em=>?_;have ed:xs.drop s.length=(.el n1 s1 k,y)::r:=by exact rR e (rR RS rfl)
  replace I:=ed▸I;refine⟨.list (I.h.loc (.tail _ mk)),Fu (d:=m+2) (b:=b+130+(if td then 0 else 1)+cs r) ((PR (· +7) em).trans (PR (· +5) (Qy m (fu k) 2))) ck tk ⟨I.h.dec (PI ?_),I.go,P (sub U) (λv v h=>h) w A.sub,P old (λv v h=>h) w A.old,P tK (λv v h=>h) w A.ok,fT (λp hp=>.tail _ hp:∀p∈X,p∈(e0,O.list (es.map pV))::X) _ (Xv _ w),
   λy hy=>I.gr.wt▸P (λN=>∀y∈tl N,y∈g.wt) (λv v h=>⟨λy hy=>h y (PZ _ hy),λy hy=>h y (PK _ hy)⟩) w A.tl y hy,
   I.gr.deep▸P (λN=>g.deep+lv N<=60) (λv v h=>⟨ID (P8 (QY ..) _) h,ID (P8 (Rd ..) _) h⟩) w A.lv,bX I.gr.keep (P (jv g.types) (λv v h=>h) w A.rf)⟩
   (P (λN=>en (ex N)<64) (λv v h=>⟨PJ (PM ..) h,PJ (Qp ..) h⟩) w cd) λg2 bs o ab E=>?_⟩
  ·rw[QH,RP (cs r)];rfl
  refine Xv _ w _ λks2 Wv XT i1 YT=>?_;have ZT:=P tK (λv v h=>h) w A.ok;have VJ:=i1.mono λp hp=>(.tail (o,O.list (bs.map pV)) (.tail (e0,O.list (es.map pV)) hp):p∈(o,O.list (bs.map pV))::(e0,O.list (es.map pV))::X);have hb:decide (2∈bs.map (·.2))=br (ex (.el n1 s1 k)):=by
   have z:bs.map (·.2)=(aT g2.rows (ex (.el n1 s1 k))).e.map (·.2):=sB (E.ty _ (.refl E.go.wf)) ((QA (f:=λx:Nat×Nat=>(PS g2.rows x.1,x.2)) (g:=λx:bC×Nat=>x.2) (l:=bs)).symm);refine rR z ?_;cases NU:br (ex (.el n1 s1 k))
   ·exact Qb λh=>PC (NU.symm.trans (lj.mp h))
   exact Qg (lj.mpr NU)
  refine xJ (m:=2) (es:=es) (.list (E.h.loc (.tail _ (.head _)))) (FG E.h VJ ZT.2.2.1 (E.h.loc (.head _)) ?_);rw[hb];have tail:∀{g3:bM}{td':Bool}{w7:V6}{Xa},Go g3 U->Gr g2 g3 0->(td'=false->td=false/\cE s1 (br (ex (.el n1 s1 k))) (decide (2∈es.map (·.2))) op=0)->(td'=true->∀x∈oI (lst L) false false,x∈cW g3)->
    H c g3 (b+130+(if td' then 0 else 1)+cs r) t ((o,.list (bs.map pV))::(e0,.list (es.map pV))::X) Xa->
    fS (aa l ns) (ad (aa l ns) (M+7)) (.seq (.asg (.one 4) (.or (.cons (.var 4) (.cons (.call 56 "has" (.cons (.var 5) (.cons (.glob "F_OPT" (.int 4096)) .nil))) .nil)))) (.seq (.expr (.meth (.var 2) "extend" (.cons (.var 6) .nil))) .nil)) [some (.ref c.n),some (.ref a),some (.ref e0),some (.bool td'),some (.bool op),some (.ref y),some (.ref o),w7] Xa (tW R (vE (fS (aa l ns) (ad (aa l ns) (M+7)) (.seq (.ret (.call 957 "put_tuple" (.cons (.var 0) (.cons (.var 2) (.cons (.lit (.int 0)) .nil))))) .nil)) (fJ Q))):=λ{g3 td' w7 Xa} G3 J G1 WJ h3=>by
   refine kh (y:=decide (s1=1)) (λv=>p9 (m:=1) h3 VJ ZT.2.2.1 (.inl rfl)) (bk (.extend (h3.loc (.tail _ (.head _)))) (kJ (.extend (h3.loc (.tail _ (.head _))) (Holds.ne2 (A:=[]) (B:=[]) h3.hs) (h3.loc (.head _)) ?_ (wExpr rfl (hR _ _ λZ z=>z g3 (es++bs) td' (op||decide (s1=1)) _ _ _ rfl ?_)))))
   ·have hd:es.length+bs.length<=(aT g2.rows (ex L)).e.length:=by
     rw[Ah il,e2,List.flatMap_map,e,Qx,QE,PQ,PQ,<-QH,<-I.ty _ ⟨E.gr.rows,E.go.wf⟩,<-E.ty _ (.refl E.go.wf),bl,bl,PL,PL];exact PM ..
    rw[PL,PL];exact ID hd (ID (fm E.go.wf (ex L)).2 (ID (P2 cd) dD))
   ·refine rR ((PR (List.drop (s++[(Nd.el n1 s1 k,y)]).length) (e.trans (R8 s _ r))).trans RS:xs.drop (s++[(Nd.el n1 s1 k,y)]).length=r) ⟨G3,(I.gr.trans E.gr (PD _) jk).trans J (PD _) (PY _),λx hx=>?_,λC x=>?_,bh (P:=λp:Nd×Addr=>∀x∈tl p.1,x∈cW g3) (λp hp x hx=>J.told x (E.gr.told x (I.told p hp x hx))) λx hx=>J.told x (E.told x hx),λC x=>?_,λz=>?_,WJ,?_⟩
    ·have z:g2.rows<+:g3.rows:=J.rows;exact(P3.mp hx).elim (λm=>⟨((I.ok x m).1.ext E.gr.rows).ext z,(I.ok x m).2⟩) λm=>⟨(E.ok x m).1.ext z,(E.ok x m).2⟩
    ·have z:d1 g2.rows C:=⟨J.rows.trans x.pre,x.wf⟩;rw[Qx,Rj,<-I.ty C ⟨E.gr.rows.trans z.pre,x.wf⟩,<-E.ty C z];exact PU
    ·have z:d1 g2.rows C:=⟨J.rows.trans x.pre,x.wf⟩;exact bh (P:=λp:Nd×Addr=>Gd C (ex p.1)) (I.gd C ⟨E.gr.rows.trans z.pre,x.wf⟩) (E.gd C z)
    ·have h0:=G1 z;refine(I.no h0.1).trans ((PW h0.2:oI (Nd.el n1 s1 k::r.map (·.1)) _ _=_).trans ?_);have e2:decide (2∈(es++bs).map (·.2))=(decide (2∈es.map (·.2))||br (ex (.el n1 s1 k))):=by rw[<-hb,PU,QJ.mpr P3];exact Bool.decide_or ..
     refine rR e2 ?_;rfl
    rw[PU];exact(H.mid (Y:=[_]) h3).keep (Y:=[_])
  refine oe (b:=0) (az (λZQ=>D4 (cD (λm=>?_) λm=>?_)) λhe=>az (λz=>VC z he) λv=>?_)
  ·have rk:oI (lst L) false false=[(_,n1)]:=(I.no ((QD _).mp m)).trans (PV ZQ);replace E.h:=((QD _).mp m)▸E.h;refine aW (E.h.loc VJ.nd) rfl rfl (zw (d:=M+3) (b:=b+130+cs r) ck (E.h.dec (PI (Qy (b+130) (cs r) 1))) E.go ?_ λg3 Xa G3 J et m3 h3=>wExpr rfl (tail (td':=true) G3 J (λh=>VC h.symm PC) (λv x hx=>by replace hx:=rk▸hx;exact PG.mp hx▸m3) h3));refine rR E.gr.wt (rR I.gr.wt ?_);exact hf _ (rk▸ .head _)
  ·exact tail (td':=td) E.go .refl (λh=>VC (h.symm.trans ((SI _).mp m)) PC) (λh x hx=>E.gr.told x (I.yes h x hx)) E.h
  exact tail (td':=td) E.go .refl (λh=>⟨h,Decidable.not_not.mp he⟩) (λh x hx=>E.gr.told x (I.yes h x hx)) E.h
 ·rw[er];replace I:=R9▸I;have w1:=I.go.wf;have ty:∀C,d1 g1.rows C->bl C es=(aT C (ex L)).e:=λC x=>by rw[I.ty C x,Ah il,e2,List.flatMap_map]
  have em:∀{C u row l'}G,d1 g1.rows C->d1 C G->C[u]?=some row->iY row=some (l',0)->bl C l'=nrm g1.rows (bl g1.rows es)->bl G l'=nrm G (aT G (ex L)).e:=λG x y e' hj m=>by exact rR (cu y.pre λz hz=>(kC x.wf e' hj z hz).1) (rR m (sB (Am (x.trans y).pre w1 (mX λz hz p hp=>oS w1 (I.ok z hz).1 hp)) (sB (ty G (x.trans y)) (rR (cu (x.trans y).pre λz hz=>(I.ok z hz).1) rfl))))
  have S1:∀G,d1 g1.rows G->∀x∈lst L,Gd G (ex x):=λG y z hz=>by replace hz:=e2▸hz;exact am (P1.mp hz) λp hp XJ=>sB XJ (I.gd G y p hp)
  have hl:=PJ (j5 w1 (ty _ (.refl w1))).1 cd;refine⟨.list (I.h.loc (.tail _ mk)),BU (d:=M) (b:=b) (ro:=0) ck (I.h.dec (ID (P8 (ID (Qu (QL hl) (PX (QL hl) 2)) dD:es.length+(es.length+2)<=130) b) (ID (PM _ _) (PM _ _)))) w1 (.inr ⟨e0,rfl,.head _⟩) I.ok hl (PY _) (PJ (j5 w1 (ty _ (.refl w1))).2 Zp) λC u row l' ma x o e' hj m h'=>q _ u ma (I.go.wr x) (I.gr.trans (.wr x) (PD _) (PD _)) ⟨o,λG y=>j6 y e' hj (em G x y e' hj m),λv=>(rS _ _ e' hj),λG y=>have ev:=xE y.wf (Lx il λz hz=>S1 G (x.trans y) z hz);⟨uj (ro:=0) y e' hj (em G x y e' hj m) ev,ev⟩⟩ (λz hz=>(P3.mp hz).elim (λhz=>?_) λhz=>?_) h'.tail⟩
  ·induction td
   ·replace hz:=(I.no rfl)▸hz;exact VC hz PH
   exact I.yes rfl z hz
  refine am (yd il z hz) λN hN hz=>?_;replace hN:=e2▸hN;obtain⟨p,hp,rfl⟩:=P1.mp hN;exact I.told p hp z hz
end
theorem Ip(o:ai c)(e:∀n s x,Nd.el n s x∈lst k->ph c l ns U x):ph c l ns U (.tup n k):=λ{D d g b t X σ Q a} v A q=>A.is _ λks dx ka at_ is=>by
 subst v;refine Iw (A.ok) λI el y J B=>dQ (I) λf T=>js (d:=d+fu k+17) (b:=b) o A.h A.go A.sub.1 (PM ..) at_ o.r86 rfl (zT A.lv).2 q λWa Q1 C L Y=>ah (F:=im) rfl rfl (B3 (M:=d+fu k+8) (b:=b+1) (j:=n-1) o f T el (λm s x i=>?_) ⟨C.dec (PI ?_),L,A.sub.2,A.old.2,y,is,λx i=>A.tl x (PK _ i),(zT A.lv).1,A.rf⟩ (λx i=>A.tl x (PZ _ i)) J B at_ λg' u N p r w told h'=>Y (n-1) _ _ _ (Vb (So (A.go.id_pos A.sub.1))) ⟨p,r,w,told,h'⟩)
 ·have z:old (.el m s x):=lO (P:=old) (λG G h=>h) i A.old.2;exact⟨e m s x i,ID (Ab (Nd.el m s x) i:fu x<=fu k) (ID (Qp (fu k) d) (PM _ 8)),SV (Q0 z.1 ((A.old.1) _ i))⟩
 exact(PR (· +co k) (rfl:b+1+131=b+132)).trans ((Qy b 132 _).trans (QH b (co k) 132))
end
def hG(R:List Row)(p:Nat):=∃x,x∈AT/\R[p]?=some x
theorem qE:∀x∈AT,∀y∈AT,rt x y=true->(x=y\/bn y=0)/\∀z∈AT,(rt y z=true->rt x z=true)/\(rt x z=true->x=y\/x=z\/y=z\/y=.key "unknown" \/z=.key "unknown"):=by decide+kernel
theorem yN:∀x∈AT,rt x (.key "unknown")=true/\(rt (.key "unknown") x=true->x=.key "unknown")/\(bn x≠0->∃y∈AT,bZ[bn x]?=some y/\rt x y=true):=by decide+kernel
section
variable{R U:List Row}{p q s:Nat}{S T:bC}{l:List bC}
mutual
theorem AZ(w:WF R):hG R 1:=⟨.key "unknown",by decide+kernel,w.get rfl⟩
theorem le_refl(h:hG R p):le R p p:=let ⟨x,_,e⟩:=h;⟨x,x,e,e,by unfold rt;simp only[Qg rfl];rfl⟩
theorem le_trans(a:hG R p)(b:hG R q)(c:hG R s)(h:le R p q)(h':le R q s):le R p s:=by refine dg h λx y A G h=>dg h' λm z B w h'=>am a λY a t=>am b λC b b'=>am c λo c i=>?_;cases A.symm.trans t;cases G.symm.trans b';cases B.symm.trans b';cases w.symm.trans i;exact⟨_,_,A,w,((qE _ a _ b h).2 _ c).1 h'⟩
theorem nt(w:WF R)(a:hG R p):le R p 1:=let ⟨x,a,e⟩:=a;⟨x,_,e,w.get (t:=1) rfl,(yN x a).1⟩
theorem ug(w:WF R)(a:hG R p)(h:le R 1 p):p=1:=by refine dg (h) λx y A G h=>am (a) λY a u=>?_;cases A.symm.trans (w.get (t:=1) rfl);cases G.symm.trans u;exact w.uniq ((yN _ a).2.1 h▸u) (w.get (t:=1) rfl)
theorem Ht(w:WF R)(a:hG R p)(b:hG R q)(c:hG R s)(h:le R p q)(h':le R p s)(n:q≠p)(f:s≠p):q=s\/q=1\/s=1:=by
 refine dg h λx y A G h=>dg h' λI z B C h'=>am a λY a u=>am b λJ b b'=>am c λo c i=>?_;cases A.symm.trans u;cases G.symm.trans b';cases B.symm.trans u;cases C.symm.trans i;rcases((qE _ a _ b h).2 _ c).2 h' with e|e|e|e|e
 ·exact VC (w.uniq b' (e▸u)) n
 ·exact VC (w.uniq i (sB e u)) f
 ·exact .inl (w.uniq b' (e▸i))
 ·exact .inr (.inl ((λe=>w.uniq e (w.get (t:=1) rfl):∀{t},R[t]?=some (.key "unknown")->t=1) (sB e b')))
 exact .inr (.inr ((λe=>w.uniq e (w.get (t:=1) rfl):∀{t},R[t]?=some (.key "unknown")->t=1) (sB e i)))
theorem By(w:WF R)(a:hG R p)(e:R[p]?=some r)(n:bn r≠0):le R p (bn r)/\hG R (bn r)/\bn r≠p:=by refine am (a) λx a u=>?_;cases e.symm.trans u;refine nR ((yN _ a).2.2 n) λy B t h=>⟨⟨_,y,e,w.get t,h⟩,⟨y,B,w.get t⟩,λz=>?_⟩;rcases gn n with k|k<;>rw[k] at z<;>subst z<;>cases e.symm.trans (w.get rfl)<;>exact n rfl
def MS(R:List Row)(S T:bC):bC:=λp=>(S p/\∃q,T q/\le R p q)\/(T p/\∃q,S q/\le R p q)
def AM(R:List Row)(l:List bC):bC:=λp=>(p=1\/bB l p)/\∀T∈l,∃q,T q/\le R p q
theorem tO(w:WF R)(t:∀T∈l++[S],(∀p,T p->hG R p)/\(T 1->∀p,T p->p=1)):aC R (MS R (aC R (AM R l)) S)=aC R (AM R (l++[S])):=by
 have A:S∈l++[S]:=PK _ (.head _);have L:∀{T},T∈l->T∈l++[S]:=λh=>PZ _ h;have aB:∀{p},bB l p->hG R p:=λz1=>by exact am z1 λT h k=>(t T (L h)).1 _ k
 have all:∀{p},(∀T∈l,∃q,T q/\le R p q)->(∃q,S q/\le R p q)->∀T∈l++[S],∃q,T q/\le R p q:=λh h' T Y=>(P3.mp Y).elim (h T) λz=>PG.mp z▸h';have up:∀{p},(p=1\/bB l p)->p=1\/bB (l++[S]) p:=λh=>h.imp_right λz2=>by exact am z2 λT h k=>⟨T,L h,k⟩
 refine n5 w (λp h=>?_) λp h=>?_
 ·rcases h with ⟨v,d⟩|⟨v,a,ha,la⟩
  ·exact⟨up v.2.1.1,all v.2.1.2 d⟩
  have sp:=(t S A).1 p v;exact⟨.inr ⟨S,A,v⟩,all (λT Y=>am (ha.2.1.2 T Y) λq d lq=>(aK q d (le_trans sp ((λh=>h.1.elim (λe=>e▸AZ w) aB:∀{p},AM R l p->hG R p) ha.2.1) ((t T (L Y)).1 q d) la lq))) ⟨p,v,le_refl sp⟩⟩
 refine am (h.2.1.2 S A) λq d lq=>?_;have N:hG R p:=h.2.1.1.elim (λe=>e▸AZ w) λz3=>by exact am z3 λT Y k=>(t T Y).1 p k
 have G:∀T∈l,∃q,T q/\le R p q:=λT Y=>h.2.1.2 T (L Y);refine(RA (AM R l 1)).elim (λC=>?_) λC=>?_
 ·refine(RA (p=1\/bB l p)).elim (λe=>?_) λe=>?_
  ·have M:p=1:=e.elim id λz4=>by exact am z4 λT Y k=>let ⟨y,B,c⟩:=C.2 T Y;(t T (L Y)).2 (ug w ((t T (L Y)).1 y B) c▸B) p k
   exact .inl ⟨M▸(j1 w).mpr C,q,d,lq⟩
  refine .inr ⟨?_,1,(j1 w).mpr C,nt w N⟩;obtain⟨T,Y,k⟩:=h.2.1.1.resolve_left λz=>e (.inl z);exact(P3.mp Y).elim (λz=>VC (.inr ⟨T,z,k⟩) e) λz=>PG.mp z▸k
 refine(RA (p=1\/bB l p)).elim (λe=>?_) λe=>?_
 ·refine(RA (rH R (AM R l) p)).elim (λst=>?_) λst=>?_
  ·exact .inl ⟨⟨λz=>VC z C,⟨e,G⟩,st⟩,q,d,lq⟩
  refine Rf λo=>st λr m n z=>DP (By w N m n) λlw J nw=>?_;have nS: ¬S p:=λf=>o (.inr ⟨f,bn r,(uV w (gn n) C).mpr z,lw⟩);refine h.2.2 r m n ⟨up z.1,all z.2 (aK q d ?_)⟩;rcases Ht w N J ((t S A).1 q d) lw lq nw (λk=>nS (k▸d)) with k|k|k
  ·exact k▸le_refl J
  ·exact VC (k▸z) C
  exact k▸nt w J
 have f:S p:=by
  obtain⟨T,Y,k⟩:=h.2.1.1.resolve_left λz=>e (.inl z);exact(P3.mp Y).elim (λz=>VC (.inr ⟨T,z,k⟩) e) λz=>PG.mp z▸k
 refine .inr ⟨f,Rf λo=>C ⟨.inl rfl,λT Y=>Rf λnT=>?_⟩⟩;refine am (G T Y) λy B c=>?_;have I:=(t T (L Y)).1 y B;have ny:y≠p:=λz=>e (.inr ⟨T,Y,z▸B⟩);refine o (aK y ⟨λz=>VC z C,⟨.inr ⟨T,Y,B⟩,λQ i=>?_⟩,λr m n=>?_⟩ c)
 ·refine am (G Q i) λy' u j=>(aK y' u ?_);rcases Ht w N I ((t Q (L i)).1 y' u) c j ny (λz=>e (.inr ⟨Q,i,z▸u⟩)) with k|k|k
  ·exact k▸le_refl I
  ·exact VC k (λz=>nT ⟨y,B,z▸nt w (AZ w)⟩:y≠1)
  exact k▸nt w I
 obtain⟨x,x',M,e2,g⟩:=c;refine am N λx1 a a'=>?_;obtain⟨y1,b,b'⟩:=I;cases M.symm.trans a';cases e2.symm.trans b';cases m.symm.trans b';exact((qE _ a _ b g).1.elim (λz=>VC (w.uniq b' (z▸a')) ny) λz=>VC z n)
theorem IS(w:WF R):aC R (AM R [])=PS R 1:=by
 have i:cf R 1:=λl e=>nomatch (w.get (t:=1) rfl).symm.trans e;funext p;refine QR ⟨λh=>?_,λh=>?_⟩
 ·show p∈ae R 1;exact rR (bf dD i) (h.2.1.1.elim (λe=>sB e (.head _)) λo=>am (o) λT h _=>VC h PH)
 cases PG.mp (sB (bf dD i:ae R 1=[1]) h:p∈[1]);exact(j1 w).mpr ⟨.inl rfl,λT h=>VC h PH⟩
theorem I0(e:R<+:U)(v:p<R.length)(d:q<R.length):le U p q↔le R p q:=by unfold le;rw[gZ e v,gZ e d]
theorem y0(e:R<+:U)(w:WF R)(r:∀T∈l,∀p,T p->p<R.length):aC U (AM U l)=aC R (AM R l):=by have lt:∀{p},p=1\/bB l p->p<R.length:=λh=>h.elim (λe=>e▸(P5 dD w.len:1<R.length)) λf=>am f λT Y k=>r T Y _ k;have z:AM U l=AM R l:=funext λp=>QR (Rx λh=>Vj λT=>Vj λY=>Vu λq=>Rx λd=>I0 e (lt h) (r T Y q d));exact rR z (dL e λp h=>lt h.1)
theorem Eh(w:WF R)(r:∀T∈l,∀p,T p->hG R p)(n:l≠[]):AM R l=λp=>bB l p/\∀T∈l,∃q,T q/\le R p q:=by funext p;refine QR (and_congr_left λh=>⟨λz=>z.elim (λe=>?_) id,.inr⟩);exact PO (List.exists_mem_of_ne_nil l n) λT Y=>am (h T Y) λq g G=>⟨T,Y,e▸(ug w (r T Y q g) (e▸G)▸g)⟩
end
end
noncomputable def FA:List (Row×Nat):=[(.key "undefined",5),(.key "null",4),(.bool 0 0,3),(.bool 1 0,3),(.num 0,2),(.num (-1),2),(.str "a",1),(.str "",1),(.key "string",1),(.key "number",2),(.key "void",6),(.key "object",7)]
def mc(x y:Row):Nat:=if rt x y then 1 else if rt y x then 2 else 0
noncomputable def HP(f:Nat):Bool:=decide (f=4)||(decide (f=5)||decide (f=6))
def un(r:Row):Bool:=decide (nV r.kind∈[V.int 2,.int 3,.int 4,.int 5])
def ML(r:Row):Bool:=decide (r=.key "string")||decide (r=.key "number")
theorem j8:∀x∈FA,x.2≠0/\(x.1.kind≠9/\x.1.kind≠7/\x.1.kind≠8)/\nL x.1=false:=by decide+kernel
theorem FN:∀x∈FA,mc x.1 x.1=1:=by decide+kernel
theorem JM:∀x∈FA,∀y∈FA,x.1≠y.1->(HP x.2||HP y.2)=true->mc x.1 y.1=bif decide (x.2=5)&&decide (y.2=6) then 1 else bif decide (x.2=6)&&decide (y.2=5) then 2 else 0:=by decide+kernel
theorem J0:∀x∈FA,∀y∈FA,x.1≠y.1->(decide (x.2=7)||decide (y.2=7))=true->mc x.1 y.1=0/\x.2≠y.2/\(x.1=.key "object" \/y.1=.key "object"):=by decide+kernel
theorem Jp:∀x∈FA,∀y∈FA,x.1≠y.1->(HP x.2||HP y.2)=false->((x.2≠y.2->mc x.1 y.1=0)/\((un x.1&&un y.1)=true->mc x.1 y.1=0))/\(x.2≠7->x.2=y.2->(un x.1&&un y.1)=false->((ML x.1=true->mc x.1 y.1=2)/\(ML x.1=false->ML y.1=true/\mc x.1 y.1=1))):=by decide+kernel
theorem Hx:∀x∈FA,HP x.2=false->x.1≠.key "undefined" /\x.1≠.key "null":=by decide+kernel
section
variable{c:cR}{g:bM}{b t d p q f:Nat}{X:Y8}{l:Addr}{ns:Z9}
section
variable{σ:Hp}{Q:KV}{x y:Row×Nat}
theorem Ha(k:ai c)(h:H c g b t X σ)(w:WF g.rows)(i:x∈FA)(e:g.rows[p]?=some x.1)(q:Q (nV x.2) σ):ad (aa l ns) (d+2) 408 [.ref c.tab,nV p] σ Q:=by
 have key:∀{s:Str}{t f:Nat},bZ[t]?=some (.key s)->aJ (nV t) [((.int 3),(.int 6)),((.int 4),(.int 5)),((.int 5),(.int 4)),((.int 6),(.int 1)),((.int 7),(.int 2)),((.int 10),(.int 7))]=some (nV f)->g.rows[p]?=some (.key s)->Q (nV f) σ->ad (aa l ns) (d+2) 408 [.ref c.tab,nV p] σ Q:=λ{s t f} m U e q=>ah (F:=jP) rfl rfl (dw k h (iT h e (bI (ag (a:=1) (b:=1) (aq (bk (.getF rfl) (kJ (.getF rfl (rR (w.uniq e (w.get m)) (rR U q))))))))));have bool:∀{v f:Nat},g.rows[p]?=some (.bool v f)->Q (nV 3) σ->ad (aa l ns) (d+2) 408 [.ref c.tab,nV p] σ Q:=λe q=>ah (F:=jP) rfl rfl (dw k h (iT h e (bI (ag (a:=2) (b:=1) (af (ag (a:=2) (b:=2) (aq q)))))));have num:∀{v:Int},g.rows[p]?=some (.num v)->Q (nV 2) σ->ad (aa l ns) (d+2) 408 [.ref c.tab,nV p] σ Q:=λ{v} e q=>ah (F:=jP) rfl rfl (dw k h (iT h e (bI (ag (a:=4) (b:=1) (af (ag (a:=4) (b:=2) (af (oY (.tup rfl) (af (ag (a:=4) (b:=6) (af (ag (a:=4) (b:=7) (af (uD (r:=.num v) (cw .lt (af (ag (a:=7) (b:=6) (af q))))))))))))))))));have str:∀{v:Str},g.rows[p]?=some (.str v)->Q (nV 1) σ->ad (aa l ns) (d+2) 408 [.ref c.tab,nV p] σ Q:=λ{v} e q=>ah (F:=jP) rfl rfl (dw k h (iT h e (bI (ag (a:=3) (b:=1) (af (ag (a:=3) (b:=2) (af (oY (.tup rfl) (af (ag (a:=3) (b:=6) (af (ag (a:=3) (b:=7) (af (uD (r:=.str v) (cw .lt (af (ag (a:=6) (b:=6) (aq q))))))))))))))))));have all:∀x∈FA,g.rows[p]?=some x.1->Q (nV x.2) σ->ad (aa l ns) (d+2) 408 [.ref c.tab,nV p] σ Q:=by have c:∀{P:Row×Nat->Prop}{x l},P x->(∀y∈l,P y)->∀y∈x::l,P y:=λh t=>eg h t;exact c (key (t:=4) (f:=5) rfl rfl) (c (key (t:=5) (f:=4) rfl rfl) (c bool (c bool (c num (c num (c str (c str (c (key (t:=6) (f:=1) rfl rfl) (c (key (t:=7) (f:=2) rfl rfl) (c (key (t:=3) (f:=6) rfl rfl) (c (key (t:=10) (f:=7) rfl rfl) bP)))))))))))
 exact all x i e q
theorem HK(q:Q (.bool (HP f)) σ):ad (aa l ns) (d+1) 415 [nV f] σ Q:=
 ah (F:=fC) rfl rfl (ag (b:=4) (kh (λa k=>ag (b:=5) (kh (λa k=>ag (b:=6) k) k)) q))
theorem Cw(m:ai c)(h:H c g b t X σ)(w:WF g.rows)(i:x∈FA)(nl:HP x.2=false)(e:g.rows[p]?=some x.1)(q:Q (.bool (un x.1)) σ):ad (aa l ns) (d+2) 375 [.ref c.tab,nV p] σ Q:=by refine ah (F:=sR) rfl rfl (ag (b:=4) ?_);refine(Qe (Qb (λz=>(Hx x i nl).1 (Qh ((z▸e).symm.trans (w.get (t:=4) rfl))):p≠4)))▸(kh (y:=un x.1) (λa k=>ag (b:=5) ?_) q);exact(Qe (Qb (λz=>(Hx x i nl).2 (Qh ((z▸e).symm.trans (w.get (t:=5) rfl))):p≠5)))▸(kh (λa k=>ah (F:=m4) rfl rfl (dw m h (iT h e (bI (oY (.tup rfl) k))))) k)
end
theorem db(h:x=true->Q (.bool y) σ->r ρ σ Q)(k:Q (.bool (x&&y)) σ):jG false r ρ Q (.bool x) σ:=by
 induction x
 ·exact af k
 exact aq (h rfl k)
section
variable{σ:Hp}{Q:KV}{m:Nat}{x y:Row×Nat}
theorem GZ(w:WF R)(e:R[p]?=some r):ML r=(decide (p=6)||decide (p=7)):=by have z:∀{t s},bZ[t]?=some (.key s)->decide (r=.key s)=decide (p=t):=λht=>QJ.mpr ⟨λk=>w.uniq (k▸e) (w.get ht),λk=>Qh ((k▸e).symm.trans (w.get ht))⟩;unfold ML;exact rR (z (t:=6) rfl) (rR (z (t:=7) rfl) rfl)
theorem Ir(I:ai c)(h:H c g b t X σ)(w:WF g.rows)(i:x∈FA)(C:y∈FA)(ex:g.rows[p]?=some x.1)(s:g.rows[q]?=some y.1)(hm:mc x.1 y.1=m)(k:Q (nV m) σ):ad (aa l ns) (d+4) 493 [.ref c.tab,nV p,nV q] σ Q:=by
 have o:∀{A B:Prop}{u v:Bool},((u||v)=true->A)->((u||v)=false->B)->qh A B σ (.bool (u||v)):=cD;have ret:∀{n},mc x.1 y.1=n->Q (nV n) σ:=λe=>(hm.symm.trans e)▸k;refine ah (F:=oA) rfl rfl (ag ?_);by_cases n:p=q
 ·subst n;exact rR (Qg rfl) (aq (aq (ret ((PR (mc x.1) (Qh (s.symm.trans ex))).trans (FN _ i)))))
 have ne:x.1≠y.1:=λz=>n (w.uniq ex (z▸s));refine rR (Qb n) (kh (y:=false) (λa k=>yO I h s (j8 y C).2.2 (D5 k)) (af (yO I h ex (j8 x i).2.2 (D5 (af (Ha I h w i ex (Ha I h w C s (ag (b:=0) ?_))))))));refine rR (Qb (j8 x i).1) (kh (y:=false) (λa k=>ag (b:=0) ?_) (af (HK (kh (y:=HP y.2) (λa k=>HK k) (o (λG=>?_) λG=>ag (b:=7) (kh (y:=decide (y.2=7)) (λa k=>ag (b:=7) k) (o (λN=>?_) λN=>?_)))))))
 ·exact rR (Qb (j8 y C).1) k
 ·have e:=JM x i y C ne G;refine ah (F:=jB) rfl rfl (ag (b:=5) (db (y:=decide (y.2=6)) (λa k=>ag (b:=6) k) (cD (λz=>ret ?_) λz=>ag (b:=6) (db (y:=decide (y.2=5)) (λa k=>ag (b:=5) k) (cD (λj=>ret ?_) λj=>ret ?_)))))
  ·refine rR e (rR z ?_);rfl
  ·refine rR e (rR z (rR j ?_));rfl
  refine rR e (rR z (rR j ?_));rfl
 ·obtain⟨e,nf,ob⟩:=J0 x i y C ne N;have J:∀{x:Row×Nat}{p:Nat},x∈FA->g.rows[p]?=some x.1->p≠11:=λi e z=>(j8 _ i).2.1.2.2 (PR Row.kind (Qh ((z▸e).symm.trans (w.get (t:=11) rfl))));refine ah (F:=jw) rfl rfl (ag (b:=11) (az (λz=>VC z (J i ex)) λa=>ag (b:=11) (az (λz=>VC z (J C s)) λa=>oe (az (λa=>ag (b:=10) (kh (y:=decide (q=10)) (λa k=>ag (b:=10) k) (o (λa=>ret e) λz=>?_))) λz=>VC nf z))));have z:=RQ.mp z;exact ob.elim (λk=>VC ((λe z=>w.uniq (z▸e) (w.get (t:=10) rfl):∀{r:Row}{p:Nat},g.rows[p]?=some r->r=.key "object" ->p=10) ex k) (Rp z.1)) λk=>VC ((λe z=>w.uniq (z▸e) (w.get (t:=10) rfl):∀{r:Row}{p:Nat},g.rows[p]?=some r->r=.key "object" ->p=10) s k) (Rp z.2)
 refine dQ (Jp x i y C ne G) λL e3=>?_;obtain⟨U,Y⟩:=L;have G:=RQ.mp G;refine ah (F:=kz) rfl rfl (oe (az (λz=>ret (U z)) λz=>Cw I h w i G.1 ex (db (y:=un y.1) (λa k=>Cw I h w C G.2 s k) (cD (λj=>ret (Y j)) λj=>?_))));refine dQ (e3 (Rp (RQ.mp N).1) (Decidable.not_not.mp z) j) λT M=>?_;rw[GZ w ex] at T M;rw[GZ w s] at M;exact ag (b:=6) (kh (y:=decide (p=7)) (λa k=>ag (b:=7) k) (o (λz=>ret (T z)) λz=>ag (b:=6) (kh (y:=decide (q=7)) (λa k=>ag (b:=7) k) (o (λj=>ret (M z).2) λj=>VC ((M z).1.symm.trans j) (λk=>VC k.symm PC)))))
end
section
variable{σ:Hp}{Q:KV}{m:Nat}{x y:Row×Nat}{a:Addr}
theorem Lr(n:ai c)(h:H c g b t X σ)(w:WF g.rows)(j:x∈FA)(G:y∈FA)(ex:g.rows[p]?=some x.1)(u:g.rows[q]?=some y.1)(J:(a,.list [nV p])∈X)(N:∀s,mc x.1 y.1=0->H c g b t X s->Q .none s)(Y:∀o r s,(mc x.1 y.1=1/\r=p\/mc x.1 y.1=2/\r=q)->H c g b t ((o,.list [nV r])::X) s->Q (.ref o) s):ad (aa l ns) (d+5) 500 [.ref c.tab,.ref a,nV q] σ Q:=by
 refine ah (F:=wj) rfl rfl λo i=>?_
 have C:=h.new (o:=.list []) i
 have k:∀{s v},H c g b t ((o,v)::X) s->cC s (.ref a) [nV p]:=λh=>.list (h.loc (.tail _ J))
 show ii _ _ _ _ _ _
 unfold ii
 have B:mc x.1 y.1=0\/mc x.1 y.1=1\/mc x.1 y.1=2:=by
  unfold mc;split
  ·exact .inr (.inl rfl)
  split
  ·exact .inr (.inr rfl)
  exact .inl rfl
 rcases B with e|e|e<;>refine⟨_,k C,k C,Ir n C w j G ex u e ?_⟩
 ·exact ag (a:=0) (b:=0) (aq (N _ e C.tail))
 ·refine ag (a:=1) (b:=0) (af (ag (a:=1) (b:=1) (aq (oe (a:=1) (b:=2) (aq (bk (.append (C.loc (.head _))) (kJ (.append (C.loc (.head _)) dD (wExpr rfl ?_)))))))));exact⟨k (C.head:H c g b t ((o,.list [nV p])::X) _),D4 (af (Y o p _ (.inl ⟨e,rfl⟩) (C.head:H c g b t ((o,.list [nV p])::X) _)))⟩
 ·refine ag (a:=2) (b:=0) (af (ag (a:=2) (b:=1) (af (oe (a:=2) (b:=2) (af ⟨k C,D4 (aq (bk (.append (C.loc (.head _))) (kJ (.append (C.loc (.head _)) dD (wExpr rfl ?_)))))⟩)))));exact Y o q _ (.inr ⟨e,rfl⟩) C.head
theorem BV(o:ai c)(h:H c g b t X σ)(i:x∈FA)(ex:g.rows[p]?=some x.1)(k:Q (.tup [nV p]) σ):ad (aa l ns) (d+1) 507 [.ref c.tab,nV p] σ Q:=
 have n:=(j8 x i).2.1
 ah (F:=gV) rfl rfl (dw o h (iT h ex (bI (ag (b:=9) (az (λz=>VC z n.1) λe=>bI (ag (b:=7) (az (λz=>VC z n.2.1) λe=>bI (ag (b:=8) (az (λz=>VC z n.2.2) λe=>k)))))))))
theorem C3(n:ai c)(h:H c g b t X σ)(w:WF g.rows)(z:x∈FA)(B:y∈FA)(ex:g.rows[p]?=some x.1)(u:g.rows[q]?=some y.1)(k:∀r s,(mc x.1 y.1=0/\r=2\/mc x.1 y.1=1/\r=p\/mc x.1 y.1=2/\r=q)->H c g b t X s->Q (nV r) s):ad (aa l ns) (d+6) 512 [.ref c.tab,nV p,nV q] σ Q:=by
 refine ah (F:=m7) rfl rfl (BV n h z ex (wG (xs:=[p]) (f:=nV) nV .tup (P6 rfl) (λA A R r=>r) λo v=>BV n (h.new (o:=.list [nV p]) v) B u ?_))
 show ii _ _ _ _ _ _
 unfold ii
 refine⟨_,.tup,.tup,Lr n (h.new (o:=.list [nV p]) v) w z B ex u (.head _) (λs e j=>cw .is (aq (k 2 s (.inl ⟨e,rfl⟩) j.tail))) λo' r s e j=>cw .is (af ⟨.tup,?_⟩)⟩
 exact kX (.lenL (j.loc (.head _)) (P6 rfl) (ag (a:=1) (b:=1) (aq (cm (i:=0) (j.loc (.head _)) dD rfl (k r s (.inr e) j.tail.tail)))))
end
end
def Ev(R:List Row)(p q:Nat):Bool:=(R[p]?).any λr=>(R[q]?).any λs=>rt r s
def mt(R:List Row)(p q:Nat):W9:=if Ev R p q then[p] else if Ev R q p then[q] else[]
theorem zW:∀x∈AT,(∀y∈AT,rt x y=true->rt y x=true->x=y)/\(x≠.key "unknown" ->∃y∈FA,y.1=x):=by decide+kernel
section
variable{R:List Row}{p q:Nat}{S T:bC}{s t:Nat}
theorem mT(a:hG R p)(b:hG R q):Ev R p q=true↔le R p q:=by refine am (a) λx _ ex=>am (b) λy _ u=>?_;delta Ev le;exact rR ex (rR u ⟨λh=>(ng x y rfl rfl h),λo=>dg (o) λB m A G h=>rR A (rR G h)⟩)
theorem Jq(w:WF R)(C:∀p,S p->hG R p)(f:∀p,T p->hG R p):(∃a,S a/\∃b,T b/\p∈mt R a b)↔MS R S T p:=by
 refine⟨λ⟨a,U,b,v,h⟩=>?_,λh=>?_⟩
 ·have A:=C a U;have B:=f b v;unfold mt at h;by_cases z:Ev R a b=true
  ·replace h:=(PW z)▸h;exact rR (PG.mp h) (.inl ⟨U,b,v,(mT A B).mp z⟩)
  replace h:=(PV z)▸h;by_cases z:Ev R b a=true
  ·replace h:=(PW z)▸h;exact rR (PG.mp h) (.inr ⟨v,a,U,(mT B A).mp z⟩)
  replace h:=(PV z)▸h;exact VC h PH
 rcases h with ⟨M,q,c,l⟩|⟨tp,q,J,l⟩
 ·refine⟨p,M,q,c,?_⟩;unfold mt;exact rR (PW ((mT (C p M) (f q c)).mpr l)) (.head _)
 have A:=f p tp;have B:=C q J;refine⟨q,J,p,tp,?_⟩;unfold mt;by_cases z:Ev R q p=true
 ·refine dg (l) λx y G I l=>dg ((mT B A).mp z) λm Q L N g=>am (A) λY a u=>am (B) λd b b'=>?_;cases G.symm.trans u;cases I.symm.trans b';cases L.symm.trans b';cases N.symm.trans u;exact rR (PW z) (rR (w.uniq u (rR ((zW _ a).1 _ b l g) b')) (.head _))
 exact rR (PV z) (rR (PW ((mT A B).mpr l)) (.head _))
theorem Fl(w:∀p,S p->hG R p):MS R S S=S:=funext λp=>QR ⟨λh=>h.elim (·.1) (·.1),λh=>.inl ⟨h,p,h,le_refl (w p h)⟩⟩
theorem Ei(w:WF R)(x:∀p,S p->hG R p):MS R S (PS R 1)=S:=by refine rR (funext λp=>PR (p∈ ·) (bf dD λl e=>nomatch (w.get (t:=1) rfl).symm.trans e):PS R 1=λp=>p∈[1]) (funext λp=>QR ⟨λh=>h.elim (·.1) λ⟨h,q,J,l⟩=>?_,λh=>.inl ⟨h,1,.head _,nt w (x p h)⟩⟩);cases PG.mp h;exact sB (ug w (x q J) l) J
theorem GN:MS R S T=MS R T S:=funext λp=>QR or_comm
theorem jo(w:WF R)(n:t≠1)(h:p∈ae R t):p≠1:=by
 rcases bG w t with rfl|⟨l,e,c⟩|⟨a,b,e⟩
 ·exact nomatch cq▸h
 ·exact((w.fit t _ e).2.2 p (c▸h)).2.2.1
 exact(Qe (PG.mp (e▸h)))▸n
theorem HV(w:WF R)(n:p≠1)(a:hG R p):∃x∈FA,R[p]?=some x.1:=am (a) λx Y e=>am ((zW x Y).2 λz=>n (w.uniq (z▸e) (w.get (t:=1) rfl))) λy U f=>(aK y U (f▸e))
theorem Mx(ex:R[p]?=some x)(u:R[q]?=some y)(h:mc x y=0/\r=2\/mc x y=1/\r=p\/mc x y=2/\r=q)(v:p≠2)(f:q≠2):(r=2/\mt R p q=[])\/(r≠2/\mt R p q=[r]):=by
 delta mt Ev;refine rR ex (rR u (?_:(r=2/\(if rt x y=true then[p] else if rt y x=true then[q] else[])=[])\/(r≠2/\(if rt x y=true then[p] else if rt y x=true then[q] else[])=[r])));delta mc at h;by_cases z:rt x y=true
 ·rw[PW z] at h⊢;rcases h with h|h|h
  ·exact VC h.1 dD
  ·exact .inr ⟨h.2▸v,h.2▸rfl⟩
  exact VC h.1 dD
 rw[PV z] at h⊢;by_cases z:rt y x=true
 ·rw[PW z] at h⊢;rcases h with h|h|h
  ·exact VC h.1 dD
  ·exact VC h.1 dD
  exact .inr ⟨h.2▸f,h.2▸rfl⟩
 rw[PV z] at h⊢;rcases h with h|h|h
 ·exact .inl ⟨h.2,rfl⟩
 ·exact VC h.1 dD
 exact VC h.1 dD
end
section
variable{c:cR}{g:bM}{t d:Nat}{X:Y8}{σ:Hp}{Q:KV}{ns:Z9}
section
variable{b u v:Nat}{l:Addr}
theorem zd{T:nc}{C:cj}{K:KS}{ρ:Env}{m:Bool}{a:Addr}{U:W9}(B:get ρ 3=some (.ref a))(e:σ a=some (.dict (dY U)))(r:U.length<64)(k:K .next ρ σ):
  jG false (Bk T C (.cons (.cmp .Gt (.bi .len (.cons (.var 3) .nil)) (.glob "MAX_DRAWN" (.int 200))) .nil) false) ρ (KY (fS T C .dead) (fS T C .nil) ρ K) (.bool m) σ:=by
 refine db (x:=m) (y:=false) (λf z=>?_) (cD (λz=>VC ((Sz m).symm.trans z) PC) λf=>k)
 show Dz (get ρ 3) _
 refine rR B (kX (.lenD e (ID (PI (PL _)) (ID (P2 r) dD)) (all_map λf=>rfl) (cw .gt ?_)))
 exact rR (Qb (Su.mpr (SE.mpr (ID (PI (PL _)) (ID (P2 r) (by decide:64<=200))))):decide ((200:Int)<(((dY U).length:Nat):Int))=false) z
theorem Mq(ck:ai c)(h:H c g (b+1) t X σ)(w:WF g.rows)(ou:ei g.rows u)(ov:ei g.rows v)(au:∀p,PS g.rows u p->hG g.rows p)(av:∀p,PS g.rows v p->hG g.rows p)(hz:u≠1->(ae g.rows u).length+(ae g.rows v).length<64)(q:∀Y r I,d1 g.rows Y->ei Y r->PS Y r=aC g.rows (MS g.rows (PS g.rows u) (PS g.rows v))->H c (g.wr Y) b t X I->Q (nV r) I):ad (aa l ns) (d+7) 519 [.ref c.tab,nV u,nV v] σ Q:=by
 have m1:v=1->MS g.rows (PS g.rows u) (PS g.rows v)=PS g.rows u:=λe=>e▸Ei w au
 have eu:MS g.rows (PS g.rows u) (PS g.rows v)=PS g.rows u->Q (nV u) σ:=λe=>q g.rows u σ (.refl w) ou (rR e ((w.norm ou).symm)) (h.dec (Qt b))
 refine ah (F:=qe) rfl rfl (ag (kh (y:=decide (v=1)) (λø k=>ag (b:=1) k) ((cD:∀{A B:Prop}{u v:Bool},((u||v)=true->A)->((u||v)=false->B)->qh A B σ (.bool (u||v))) (λz=>eu ((Qw.mp z).elim (λz=>P9 z▸Fl au) λz=>m1 (P9 z))) λz=>ag (b:=1) (az (λz=>q g.rows v σ (.refl w) ov (by simp only[z,GN,Ei w av];exact(w.norm ov).symm) (h.dec (Qt b))) λnu=>?_))))
 have nv:v≠1:=Rp (RQ.mp z).2
 show d8 _ _ _
 unfold d8
 refine(Io ([]) rfl rfl rfl dD .nil (λa ha=>?_))
 have h0:H c g (b+1) t ((a,.dict (dY []))::X) (upd σ a (.dict [])):=h.new ha
 have mu:=λp (C:p∈ae g.rows u)=>(w.parts ou C:ei g.rows p/\p≠2/\cf g.rows p)
 have mv:=λp (C:p∈ae g.rows v)=>(w.parts ov C:ei g.rows p/\p≠2/\cf g.rows p)
 have fu:=λp (C:p∈ae g.rows u)=>HV w (jo w nu C) (au p C)
 have fv:=λp (C:p∈ae g.rows v)=>HV w (jo w nv C) (av p C)
 have hm:=λp=>(Jq (p:=p) w au av)
 unfold PS at hm q
 refine uO ck h0 ou.1 (uO ck h0 ov.1 (kX (.lenT (ID (PI (PL _)) (ID (PM _ _) (ID (P2 (hz nu)) dD)):((ae g.rows u).map nV).length<=lim) (cw .gt (db (y:=decide (1<((((ae g.rows v).map nV).length:Nat):Int))) (λø k=>kX (.lenT (ID (PI (PL _)) (ID (Qp _ _) (ID (P2 (hz nu)) dD)):((ae g.rows v).map nV).length<=lim) (cw .gt k))) ?_)))))
 generalize (decide (1<((((ae g.rows u).map nV).length:Nat):Int))&&decide (1<((((ae g.rows v).map nV).length:Nat):Int)))=cr
 generalize ae g.rows u=A at*
 generalize ae g.rows v=B at*
 have sub:∀{L:W9},(∀p∈L,p∈A++B)->L.Nodup->L.length<64:=λhs m=>PJ (jq m hs) (PQ▸(hz nu))
 have sb:∀{x y p},x∈A->y∈B->p∈mt g.rows x y->p∈A++B:=λ{x y p} hx hy h=>by
  unfold mt at h;by_cases z:Ev g.rows x y=true
  ·replace h:=(PW z)▸h;exact rR (PG.mp h) (PZ _ hx)
  replace h:=(PV z)▸h;by_cases z:Ev g.rows y x=true
  ·replace h:=(PW z)▸h;exact(Qe (PG.mp h))▸(PK _ hy)
  replace h:=(PV z)▸h;exact VC h PH
 refine gO (f:=nV) .tup (λs ρ σ=>∀Z:Prop,(∀w1 M J,ρ=[some (.ref c.tab),some (nV u),some (nV v),some (.ref a),some (.tup (A.map nV)),some (.tup (B.map nV)),some (.bool cr),w1,M,J]->H c g (b+1) t ((a,.dict (dY (bR [] (s.flatMap λx=>B.flatMap (mt g.rows x)))))::X) σ->Z)->Z) (λZ z=>z none none none rfl h0) (λs x r e R hR ρ σ i=>i _ λw1 M J er h1=>?_) λρ σ i=>i _ λw1 M J er h1=>?_
 ·refine rR er ?_;have hx:x∈A:=e▸PK _ (.head _);refine PO (fu x hx) λrx N=>⟨.tup,?_⟩;refine gO (f:=nV) .tup (λs' ρ σ=>∀Z:Prop,(∀M J,ρ=[some (.ref c.tab),some (nV u),some (nV v),some (.ref a),some (.tup (A.map nV)),some (.tup (B.map nV)),some (.bool cr),some (nV x),M,J]->H c g (b+1) t ((a,.dict (dY (bR (bR [] (s.flatMap λx=>B.flatMap (mt g.rows x))) (s'.flatMap (mt g.rows x)))))::X) σ->Z)->Z) (λZ z=>z M J rfl h1) (λs' y r' e' Y du ρ σ i=>i _ λM J er h2=>?_) λρ σ i=>i _ λM J er h2=>⟨.tup,hR _ _ λZ z=>z _ M J er ?_⟩
  ·refine(er)▸?_;have hy:y∈B:=e'▸PK _ (.head _);refine am (fv y hy) λry bq j=>?_;have hs:∀p∈bR (bR [] (s.flatMap λx=>B.flatMap (mt g.rows x))) (s'.flatMap (mt g.rows x)),p∈A++B:=λp C=>by
    refine RD (iQ.mp C) (λC=>?_) λC=>?_
    ·refine am (Rs.mp ((iQ.mp C).resolve_left PH)) λx' tq C=>PO (Rs.mp C) λy' T=>?_;have C:=T.2;exact sb (e▸PZ _ tq) T.1 C
    exact am (Rs.mp C) λy' Wq C=>sb hx (e'▸PZ _ Wq) C
   have m:(bR (bR [] (s.flatMap λx=>B.flatMap (mt g.rows x))) (s'.flatMap (mt g.rows x))).Nodup:=fQ (fQ .nil);refine⟨.tup,C3 ck h2 w N.1 bq N.2 j λr I hr h3=>oe (b:=2) ?_⟩;rcases Mx N.2 j hr (mu x hx).2.1 (mv y hy).2.1 with ⟨rfl,em⟩|⟨n2,em⟩
   ·refine af (zd rfl (h3.loc (.head _)) (sub hs m) ?_);refine du _ _ λZ z=>z _ _ rfl ((?_:bR _ _=_)▸h3);simp only[Qx,Rj,em,Qm]
   refine rR (Qg n2) ?_;have hr:r∈A++B:=sb hx hy (em▸ .head _);refine aq (jT (h3.loc (.head _)) jy (ID (PI (PL _)) (ID (P2 (sub hs m)) dD)) ?_);simp only[Au];refine zd rfl (PW rfl) (sub (λp C=>(Ay.mp C).elim (hs p) λe=>e▸hr) (sU m)) (du _ _ λZ z=>z _ _ rfl ((?_:Bx _ _=_)▸h3.head));simp only[Qx,Rj,em,iR];rfl
  simp only[Qx,Rj,iR];exact h2
 ·refine rR er ?_;have m:(bR [] (A.flatMap λx=>B.flatMap (mt g.rows x))).Nodup:=fQ .nil;have hM:∀p,p∈bR [] (A.flatMap λx=>B.flatMap (mt g.rows x))↔MS g.rows (λp=>p∈A) (λp=>p∈B) p:=λp=>(iQ.trans (S0 PH)).trans (Rs.trans ((Vu λa=>Rx λø=>Rs).trans (hm p)));have hs:∀p∈bR [] (A.flatMap λx=>B.flatMap (mt g.rows x)),p∈A++B:=λp C=>((hM p).mp C).elim (λz=>PZ _ z.1) λz=>PK _ z.1;generalize bR [] (A.flatMap λx=>B.flatMap (mt g.rows x))=U at*;have lU:=sub hs m;refine⟨.tup,kX (.sortI (l:=U.map λ(n:Nat)=>(n:Int)) (h1.loc (.head _)) (PJ (PI (PL _)) lU) (by unfold dY;simp only[QA,QA];rfl) λl' pl ol s V1=>?_)⟩;refine nR (qN m pl ol) λL e hL pL=>?_;simp only[e];have oL:∀p∈L,ei g.rows p/\ae g.rows p=[p]:=λp C=>(P3.mp (hs p (pL.mem_iff.mp C))).elim (λz=>⟨(mu p z).1,bf (mu p z).2.1 (mu p z).2.2⟩) λz=>⟨(mv p z).1,bf (mv p z).2.1 (mv p z).2.2⟩;refine mD (d:=d+3) (b:=b) ck (h1.new (o:=.list (L.map nV)) V1) w (.inr (aK s rfl (.head _))) (λp C=>(oL p C).1) (PJ (PI ((PR List.length (zr λp C=>(oL p C).2:L.flatMap (ae g.rows)=L)).trans pL.length_eq)) lU) λY r I x o e h3=>q Y r I x o (e.trans (PR _ (funext λp=>QR ?_))) h3.tail.tail;exact⟨λz1=>by refine PO (z1) λi G=>?_;have z:=G.2;exact(hM p).mp (pL.mem_iff.mp (PG.mp ((oL i G.1).2▸z:p∈[i])▸G.1)),λz=>have C:=pL.mem_iff.mpr ((hM p).mpr z);(aK p C ((PR (p∈ ·) (oL p C).2).mpr (.head _)))⟩
end
theorem d7:∀x∈AT,iY x=none/\∀y∈AT,(rt x y=true->d4 y|||d4 x=d4 y)/\∀b,b<13->(d4 x).testBit b=true->(d4 y).testBit b=true->rt x y=true\/rt y x=true:=by decide+kernel
theorem Fy:∀{vs:List eY}{k:Nat},(vs.foldl (λm v=>m&&&v.1) k).testBit b=true↔k.testBit b=true/\∀v∈vs,v.1.testBit b=true:=by
 intro l;induction l with
 |nil=>intro k;exact⟨λh=>⟨h,bP⟩,λh=>h.1⟩
 |cons v vs ih=>intro k;exact(ih).trans (by rw[Sh,QW,and_assoc,TL])
theorem HX(f:b<13):∀{l:List bC},l≠[]->(∀S∈l,∃p,S p/\hG R p/\(pt R p).1.testBit b=true)->∃p,bB l p/\(hG R p/\(pt R p).1.testBit b=true)/\∀S∈l,∃q,(S q/\hG R q)/\le R p q
 |[],n,_=>VC rfl n
 |S::l,_,h=>by
  refine nR (h S (.head _)) λp v N o=>?_;by_cases n:l=[]
  ·exact rR n (oW p ⟨S,.head _,v⟩ ⟨N,o⟩ (λT U=>(Qe (PG.mp U))▸(aK p ⟨v,N⟩ (le_refl N))))
  refine nR (HX f n λS Y=>h S (.tail _ Y)) λq s i M=>am (s) λT L a=>?_;have w:=i.2;refine PO (N) λx A=>?_;have I:=A.1;have ex:=A.2;refine am (i.1) λy C u=>?_;rw[cn ex (d7 x I).1] at o;rw[cn u (d7 y C).1] at w;rcases((d7 x I).2 y C).2 b f o w with k|k
  ·refine(oW p ⟨S,.head _,v⟩ ⟨⟨x,I,ex⟩,by exact rR (cn ex (d7 x I).1) o⟩ (eg (aK p ⟨v,x,I,ex⟩ (le_refl ⟨x,I,ex⟩)) (λT U=>?_)));exact am (M T U) λz B m=>(aK z B (le_trans ⟨x,I,ex⟩ ⟨y,C,u⟩ B.2 ⟨x,y,ex,u,k⟩ m))
  exact(oW q ⟨T,.tail _ L,a⟩ ⟨⟨y,C,u⟩,by exact rR (cn u (d7 y C).1) w⟩ (eg ⟨p,⟨v,x,I,ex⟩,⟨y,x,u,ex,k⟩⟩ M))
theorem Ig(w:WF R)(L:VK R l vs)(at_:∀S∈l,∀p,S p->hG R p)(n:l≠[]):VS R (vs.foldl (λm v=>m&&&v.1) 8191,[]) (aC R λp=>bB l p/\∀S∈l,∃q,S q/\le R p q):=by
 refine dQ (DU L) λJ i=>?_;have B:∀b,(8191:Nat).testBit b=true↔b<13:=λb=>⟨λh=>SZ λk=>PC ((UF (P5 (by decide:8191<2^13) (U9 dD k))).symm.trans h),(by decide:∀b,b<13->(8191:Nat).testBit b=true) b⟩;refine pd w ⟨λb=>Fy.trans ⟨λM=>dQ M λk h=>?_,λ⟨p,⟨⟨S,N,A⟩,lo⟩,f⟩=>⟨(B b).mpr (xq f),λv r=>?_⟩⟩,λs=>⟨λh=>VC h PH,λ⟨_,p,⟨⟨S,N,A⟩,_⟩,h⟩=>?_⟩,.nil,.nil⟩
 ·obtain⟨p,A,f,lo⟩:=HX ((B b).mp k) n λS N=>am (i S N) λv r z=>let ⟨p,A,y⟩:=(z.bits b).mp (h v r);(oW p A (at_ S N p A) y)
  exact(aK p ⟨A,λS N=>am (lo S N) λq e z=>(aK q e.1 z)⟩ f.2)
 ·refine am (J v r) λT Y z=>?_;obtain⟨q,e,x,y,ex,u,k⟩:=lo T Y;refine(z.bits b).mpr ⟨q,e,?_⟩;refine am (at_ S N p A) λa I C=>am (at_ T Y q e) λo G U=>?_;cases ex.symm.trans C;cases u.symm.trans U;rw[cn ex (d7 _ I).1] at f;rw[cn u (d7 _ G).1,<-((d7 _ I).2 _ G).1 k,Ub];exact Qw.mpr (.inr f)
 obtain⟨x,I,ex⟩:=at_ S N p A;rw[cn ex (d7 x I).1] at h;exact VC h PH
theorem JJ(w:WF R)(B:∀u∈us,ei R u)(at_:∀u∈us,∀p,PS R u p->hG R p)(ne:us≠[])(f:∀m,d1 R m->us.map (PS m)=(aT m L).k)(h:∀m,d1 R m->VK m (aT m L).k (val L).k)(x:d1 R R1)(o:ei R1 u)(s:PS R1 u=aC R (AM R (us.map (PS R)))):Ty R1 (.int L) u:=
 ⟨o,λm y=>by
  show PS m u=aC m λp=>bB (aT m L).k p/\∀S∈(aT m L).k,∃q,S q/\le m p q;have z:=x.trans y;have lt:∀T∈us.map (PS R),∀p,T p->p<R.length/\hG m p:=λT Y p A=>by refine am (P1.mp Y) λi hi U=>?_;subst U;exact⟨oS w (B i hi) A,am (at_ i hi p A) λx j e=>⟨x,j,d5 z.pre e⟩⟩
  exact sB (f m z) (rR (dT y.pre o.1) (rR s (sB (y0 z.pre w λT Y p A=>(lt T Y p A).1) (rR (QM λi hi=>dT z.pre (B i hi).1) (rR (Eh y.wf (λT Y p A=>(lt T Y p A).2) λe=>ne (R4.mp e)) rfl))))),λz=>VC z PC,λm y=>⟨Ig y.wf (h m (x.trans y)) (λS N p A=>by
  simp only[<-f m (x.trans y)] at N;refine am (P1.mp N) λi hi b=>?_;subst b;exact am (at_ i hi p (sB (dT (x.trans y).pre (B i hi).1) A)) λv r e=>⟨v,r,d5 (x.trans y).pre e⟩) λe=>ne (R4.mp ((f m (x.trans y)).trans e)),rfl⟩⟩
section
variable{b:Nat}{l a:Addr}{us:W9}
theorem EL{m:Nat}:decide (V.int m∈us.map nV)=decide (m∈us):=QJ.mpr ⟨λh=>am (P1.mp h) λx i e=>sB (iH e) i,λh=>P1.mpr ⟨m,h,rfl⟩⟩
theorem Dq{m:Nat}(e:σ a=some (.list (us.map nV))):In σ (nV m) (.ref a) (decide (m∈us)):=sB EL (.list e (all_map λf=>rfl))
theorem vF:∀{us:W9}{k:Nat}(e:k<us.length),((us.take k).flatMap (ae R)).length+(ae R (us[k]'e)).length<=(us.flatMap (ae R)).length
 |u::us,0,_=>by show 0+(ae R u).length<=_;simp only[Rh,QE,PQ];exact PM ..
 |u::us,k+1,e=>by show(((u::us.take k)).flatMap (ae R)).length+(ae R (us[k]'(Ri e))).length<=_;simp only[QE,QE,PQ,PQ,QH];exact P8 (vF (Ri e)) _
theorem EJ(ck:ai c)(h:H c g (b+us.length) t X σ)(w:WF g.rows)(J:(a,.list (us.map nV))∈X)(G:∀u∈us,ei g.rows u)(at_:∀u∈us,∀p,PS g.rows u p->hG g.rows p)(hz:(us.flatMap (ae g.rows)).length<64)(ne:us≠[])(L:us.length<=100)(q:∀N r M,d1 g.rows N->ei N r->PS N r=aC g.rows (AM g.rows (us.map (PS g.rows)))->H c (g.wr N) b t X M->Q (nV r) M):ad (aa l ns) (d+8) 526 [.ref c.tab,.ref a] σ Q:=by
 have lt:∀T∈us.map (PS g.rows),∀p,T p->p<g.rows.length:=λT U p v=>by refine am (P1.mp U) λu B I=>?_;subst I;exact oS w (G u B) v
 refine ah (F:=zo) rfl rfl (?_:ii _ _ _ _ _ _)
 unfold ii
 refine⟨_,.tup,.tup,oY (Dq (m:=2) (h.loc J)) (az (λm=>q _ 2 σ (.refl w) ⟨P5 dD w.len,by decide,by decide,by decide,by decide,by decide⟩ (funext λp=>QR ⟨λz=>VC (sB cq z:p∈[]) PH,λz=>?_⟩) (h.dec (PM ..))) λø=>⟨.tup,oY (sB (Qb (λm=>(G 0 m).2.1 rfl:0∉us)) (Dq (m:=0) (h.loc J)):In σ (.int 0) (.ref a) false) (af ⟨.tup,oY (Qb (λm=>(G 13 m).2.2.1 rfl:13∉us)▸Dq (m:=13) (h.loc J)) (af ⟨.tup,?_⟩)⟩)⟩)⟩
 ·exact am (z.2.1.2 _ (P1.mpr (aK 2 m rfl))) λx hx _=>VC (sB cq hx:x∈[]) PH
 refine eZ (h.loc J) (cO rfl (ID L dD:us.length<=lim)) (PL _) (jY (ID L dD:us.length<=lim) (λk ρ σ=>∀Z:Prop,(∀y o w4,ρ=[some (.ref c.tab),some (.ref a),some (nV 13),some (nV o),w4]->d1 g.rows y->ei y o->PS y o=aC g.rows (AM g.rows ((us.take k).map (PS g.rows)))->H c (g.wr y) (b+(us.length-k)) t X σ->Z)->Z)
  (λZ z=>z g.rows 1 none rfl (.refl w) ⟨P5 dD w.len,by decide,by decide,by decide,by decide,by decide⟩ (IS w).symm h) (λk f R hR ρ σ i=>i _ λy o w4 er A o1 eq C=>?_) λρ σ i=>i _ λy o w4 er A o1 eq C=>?_)
 ·refine rR er ?_;rw[Of f] at C;have B:=Rq f;have gu:(us.map nV)[k]?=some (nV us[k]):=cZ f;have su:=vF (R:=g.rows) f;have tk:(us.take (k+1)).map (PS g.rows)=(us.take k).map (PS g.rows)++[PS g.rows us[k]]:=take_snoc f;generalize us[k]=u at*;refine cm (C.loc J) (P5 f (ID L dD):k<1000000) gu (D1 (C.loc J) (cO rfl (ID L dD:us.length<=lim)) λs hs=>?_);refine sB R7 ?_;have Y:=C.new (o:=.list ((us.take k).map nV)) hs;refine DY (Dq (Y.loc (.head _))) ?_;by_cases m:u∈us.take k
  ·refine(Qe (Qg m))▸(af (hR _ _ λZ z=>z y o _ rfl A o1 (eq.trans (PR _ ?_)) (Y.tail.dec (Qt _))));refine rR tk ?_;have io:∀{T},T∈(us.take k).map (PS g.rows)++[PS g.rows u]->T∈(us.take k).map (PS g.rows):=λh=>(P3.mp h).elim id λz=>PG.mp z▸(P1.mpr ⟨u,m,rfl⟩:PS g.rows u∈(us.take k).map (PS g.rows));exact funext λp=>QR (and_congr (Tv ⟨λz1=>am z1 λT h z=>⟨T,PZ _ h,z⟩,λn=>am n λT h z=>⟨T,io h,z⟩⟩) ⟨λh T z=>h T (io z),λh T z=>h T (PZ _ z)⟩)
  refine(Qe (Qb m))▸(aq (cm (Y.loc (.tail _ J)) (P5 f (ID L dD):k<1000000) gu ?_));have tu:∀i∈us.take k,i∈us:=λi hi=>QP hi;have U:∀T∈(us.take k).map (PS g.rows)++[PS g.rows u],(∀p,T p->hG y p)/\(T 1->∀p,T p->p=1):=λT U=>by have⟨i,hi,e⟩:∃i∈us,PS g.rows i=T:=(P3.mp U).elim (λz=>let ⟨i,hi,e⟩:=P1.mp z;(aK i (tu i hi) e)) λz=>(aK u B ((PG.mp z).symm));subst e;exact⟨λp v=>am (at_ i hi p v) λx hx e=>⟨x,hx,d5 A.pre e⟩,λC p v=>((RT (w.norm (G i hi)) p).mpr v).1 C⟩
  have lT:∀T∈(us.take k).map (PS g.rows)++[PS g.rows u],∀p,T p->p<g.rows.length:=λT U=>lt T ((P3.mp U).elim (λz=>let ⟨i,hi,e⟩:=P1.mp z;P1.mpr (aK i (tu i hi) e)) λz=>P1.mpr ⟨u,B,(PG.mp z).symm⟩);have eo:=eq.trans (y0 A.pre w λT h=>lT T (PZ _ h)).symm;have ho:∀p,PS y o p->p=1\/bB ((us.take k).map (PS g.rows)) p:=λp v=>((RT eo p).mp v).2.1.1;refine Mq (d:=d) ck Y A.wf o1 ((G u B).ext A.pre) (λp v=>(ho p v).elim (λe=>e▸AZ A.wf) λz2=>am z2 λT h z=>(U T (PZ _ h)).1 p z) (λp v=>(U _ (PK _ (.head _))).1 p ((dT A.pre (G u B).1:PS y u=PS g.rows u)▸v)) (λn1=>?_) λR2 r ab e2 o2 e' h3=>hR _ _ λZ z=>z R2 r _ rfl (A.trans e2) o2 ?_ h3.tail
  ·show(ae y o).length+(ae y u).length<64;refine(Qe (fX A.pre (G u B).1))▸(PJ (ID (PX (jq (A.wf.ndp o) λp v=>?_) _) su) hz);refine am ((ho p v).resolve_left (jo A.wf n1 v)) λT U z=>am (P1.mp U) λi hi j=>?_;subst j;exact Rs.mpr (aK i hi z)
  exact(Qe tk)▸((Qe e')▸((Qe eo)▸((Qe ((dT A.pre (G u B).1:PS y u=PS g.rows u)))▸((Qe (tO A.wf U))▸(y0 A.pre w lT)))))
 ·refine rR er ?_;rw[Sn] at C;rw[SC] at eq;exact q y o _ A o1 eq C
variable{U:Nat->Option Nd}{n:Nat}{k:Nd}
theorem Ia(m:ai c)(hk:∀x∈lst k,ph c l ns U x):ph c l ns U (.int n k):=λ{D d g b t X σ Q a} eD A q=>A.is _ λks dx ka at_ is=>by
 subst eD;have f:=A.ok.1.1;have T:=A.ok.1.2;have I:=A.ok.2.1;have ok:=A.ok.2.2.1;have fl:=A.ok.2.2.2.1;have nn:=A.ok.2.2.2.2.1;refine js (d:=d+fu k+17) (b:=b) m A.h A.go A.sub.1 (PM ..) at_ m.r84 rfl (zT A.lv).2 q λWa Q1 G L Y=>ah (F:=iy) rfl rfl (aW G.c_n (m.nf _).tab rfl (gM G at_ ?_));refine CS (b:=b+102) (j:=n-1) m f (λx w=>⟨hk x w,ID (Ab x w) (ID (Qp ..) (PM _ 16)),SV ((A.old.1) x w)⟩) ⟨G.dec (PI (Qy b 102 _)),L,A.sub.2,A.old.2,ok,is,A.tl,(zT A.lv).1,A.rf⟩ at_.ks (ID T dD) λC us ma r a1 ha=>?_;have M:=r.ty _ (.refl r.go.wf);have J:∀u∈us,∀p,PS C.rows u p->hG C.rows p:=λu hu p I=>
  let ⟨x,i,w,e⟩:=(dX (R:=C.rows) fl).2 p (rR (DL f) (sB M ⟨_,P1.mpr ⟨u,hu,rfl⟩,I⟩))
  ⟨x,qZ w,e⟩
 have ne:us≠[]:=λz=>by
  subst z;induction k with
  |nil=>exact nn rfl
  |cons a r=>exact nomatch M
  |_=>exact VC f PC
 refine EJ (d:=d+fu k+8) (b:=b+1) m ((r.h.new (o:=.list (us.map nV)) ha).dec (ID (PI (QH b 1 _)) (P8 (ID (P8 (ID (PI (((PL _).symm.trans (PR List.length M)).trans (PL _))) T:us.length<=100) 1) dD) b))) r.go.wf (.head _) r.ok J (PJ (tT r.go.wf f M) I) ne (ID (PI (((PL _).symm.trans (PR List.length M)).trans (PL _))) T:us.length<=100) λB u ab x o s h3=>Y (n-1) _ _ _ (Vb (So (A.go.id_pos A.sub.1))) ⟨r.go.wr x,r.gr.trans (.wr x) (PD _) (PD _),JJ r.go.wf r.ok J ne (λB x=>(r.ty B x).trans (DL f).symm) (λB x=>HW f (r.gd B x)) x o s,λy hy=>?_,h3.tail⟩;exact am (yd f y hy) λN v h=>r.told N v y h
end
end
section
variable{c:cR}{l:Addr}{ns:Z9}{U:Nat->Option Nd}
theorem KD(h:tK N->ph c l ns U N):ph c l ns U N:=λa a a a a a a a a t A q=>h A.ok t A q
structure NB(c:cR)(l:Addr)(ns:Z9)(U:Nat->Option Nd)(N:Nd):Prop where
 one:one N=true->ph c l ns U N
 lst:∀x∈lst N,(Internal.one x=true->ph c l ns U x)/\∀n s k,x=.el n s k->Internal.one k=true->ph c l ns U k
 el:∀n s k,N=.el n s k->Internal.one k=true->ph c l ns U k
theorem NQ(o:ai c)(N:Nd):NB c l ns U N:=by
 have nl:∀{x:Nd}{P:Prop},x∈([]:List Nd)->P:=λh=>VC h PH;induction N with
 |nil=>exact⟨λh=>VC h PC,λx h=>nl h,λn s k e=>nomatch e⟩
 |cons a r iha ihr=>exact⟨λh=>VC h PC,λx h=>(P0.mp h).elim (λe=>e▸⟨iha.one,iha.el⟩) (ihr.lst x),λn s k e=>nomatch e⟩
 |leaf n i=>exact⟨λb=>Ii o,λx h=>nl h,λn s k e=>nomatch e⟩
 |uni n k m=>exact⟨λb=>KD (N:=.uni n k) λy=>JW o λx j=>(m.lst x j).1 (y.2.2.2 x j),λx h=>nl h,λn s k e=>nomatch e⟩
 |int n k m=>exact⟨λb=>KD (N:=.int n k) λy=>Ia o λx j=>(m.lst x j).1 (y.2.2.2.2.2 x j),λx h=>nl h,λn s k e=>nomatch e⟩
 |arr n k m=>exact⟨λb=>KD (N:=.arr n k) λy=>FC o (m.one y.2),λx h=>nl h,λn s k e=>nomatch e⟩
 |ro n k m=>exact⟨λb=>KD (N:=.ro n k) λy=>KJ o (m.one y.2.1),λx h=>nl h,λn s k e=>nomatch e⟩
 |par n k m=>exact⟨λb=>KD (N:=.par n k) λy=>MC o (m.one y.2),λx h=>nl h,λn s k e=>nomatch e⟩
 |ref n k m=>exact⟨λb=>Kb o,λx h=>nl h,λn s k e=>nomatch e⟩
 |tup n k m=>exact⟨λb=>KD (N:=.tup n k) λy=>Ip o λn s x j=>(m.lst _ j).2 n s x rfl (lO (P:=tK) (λb b h=>h) j y.2.2.1).2.1,λx h=>nl h,λn s k e=>nomatch e⟩
 |el n s k m=>exact⟨λh=>VC h PC,λx h=>nl h,λn s k e=>by cases e;exact m.one⟩
theorem Nr(k:ai c)(o:one N=true):ph c l ns U N:=(NQ k N).one o
end
section
open PyProof.Rows PySem.Spec
mutual
theorem yj:∀{l:Y9},sortedS l=true->Jm l:=by
 have q:∀(l:Y9)(p:Str),risingS p l=true->Jm (p::l):=λl=>by
  induction l with
  |nil=>exactλp a=>RZ _ _
  |cons x r ih=>
   intro p h;refine dQ (vB h) λC d=>RJ.mpr ⟨λy B=>?_,(ih x d)⟩;rcases P0.mp B with rfl|B
   ·exact C
   exact eQ.mpr (List.le_trans (eQ.mp C) (eQ.mp ((RJ.mp (ih x d)).1 y B)))
 intro l h;induction l with
 |nil=>exact .nil
 |cons x r=>exact q r x h
theorem Bf(a b:Nat):Builtin.bitOr (a:Int) (b:Int)=((a|||b:Nat):Int):=by
 have G:∀x:Int,Builtin.bitNot (Builtin.bitNot x)=x:=λx=>by unfold Builtin.bitNot;lia
 have n:∀a:Nat,¬(0:Int)<=Builtin.bitNot (a:Int):=λa=>by unfold Builtin.bitNot;omega
 have h:Builtin.bitOr (a:Int) (b:Int)=Builtin.bitNot (Builtin.bitNot ((a|||b:Nat):Int)):=by unfold Builtin.bitOr;simp only[PyProof.Rows.bitAnd_nn (n a) (n b),G,G,G,G];rfl
 simp only[h,G]
theorem lR(a b:Nat):Builtin.bitAnd (a:Int) (b:Int)=((a&&&b:Nat):Int):=PyProof.Rows.bitAnd_pp (Rb a) (Rb b)
theorem rh:ni (l++[v])=ni l|||v.1:=by
 induction l with
 |nil=>exact(Nat.or_zero _).trans (Nat.zero_or _).symm
 |cons a l ih=>exact(PR (a.1||| ·) ih).trans (Nat.or_assoc ..).symm
noncomputable def wp(K:Y9):X7:=K.map λs=>(.str s,.int 1)
theorem C1:∀{K:Y9},gJ (.str s) (.int 1) (wp K)=wp (eJ K s):=by
 intro l;induction l with
 |nil=>exact rfl
 |cons a K ih=>
  by_cases e:a=s
  ·exact(e)▸(rR (show eJ (a::K) a=a::K from PW (.head _)) (PW rfl))
  have z:s∈a::K↔s∈K:=⟨λh=>(P0.mp h).elim (λz=>VC z.symm e) id,.tail _⟩;have h:eJ (a::K) s=a::eJ K s:=by
   unfold eJ;by_cases h:s∈K
   ·exact rR (PW (z.mpr h)) (rR (PW h) rfl)
   rw[PV λy=>h (z.mp y),PV h];rfl
  exact rR h ((PV λz=>e (V.str.inj z)).trans (PR _ ih))
theorem Dd{K:Y9}(h:PyData.strOk s=true):aI (.str s) (wp K)=true:=P7.mpr ⟨h,all_map λa=>rfl⟩
def vV(p:eY×Addr):V:=.tup [nV p.1.1,.ref p.2]
def Kp(X:Y8)(p:eY×Addr):Prop:=(p.2,O.list (p.1.2.map V.str))∈X
def i4(c:cR)(g:bM)(b t:Nat)(X:Y8)(v:eY)(Q:KV):=∀a σ,H c g b t ((a,.list (v.2.map V.str))::X) σ->Q (vV (v,a)) σ
noncomputable abbrev bV(s:List (eY×Addr)):List eY:=s.map (·.1)
noncomputable abbrev aH(l:List eY):Y9:=l.flatMap (·.2)
theorem Da:aH (bV (s++r))=aH (bV s)++aH (bV r):=(PR aH PU).trans Qx
end
section
variable{c:cR}{g:bM}{b t d:Nat}{X:Y8}{σ:Hp}{Q:KV}{l:Addr}{ns:Z9}{a:Addr}
theorem zC{m:Nat}:decide (Builtin.bitAnd (m:Int) 4096≠0)=m.testBit 12:=by
 simp only[show Builtin.bitAnd (m:Int) 4096=((m&&&4096:Nat):Int) from lR m 4096,show m&&&4096=m&&&2^12 from rfl];cases z:m.testBit 12 with
 |true=>exact Qg λe=>PC (((PR (Nat.testBit · 12) (Int.ofNat.inj e)).symm.trans ((Sh ..).trans (by simp only[z,Vg];decide))))
 |false=>
  have e:m&&&2^12=0:=TM λi=>by
   simp only[Sh,Vg,Rl];by_cases h:12=i
   ·subst h;simp only[z];rfl
   simp only[Qb h,Sz]
  simp only[e];rfl
theorem uC(h:H c g b t X σ){xs:List (eY×Addr)}(J:(a,.list (xs.map vV))∈X)(L:∀p∈xs,Kp X p)(so:∀p∈xs,∀s∈p.1.2,PyData.strOk s=true)(Y:(aH (bV xs)).length<64)(q:i4 c g b t X (be (bV xs)) Q):ad (aa l ns) (d+1) 1221 [.ref a] σ Q:=by
 refine ah (F:=rc) rfl rfl (?_:d8 _ _ _)
 unfold d8
 refine(Io ([]) rfl rfl rfl dD .nil (λk U=>?_))
 refine gO (f:=vV) (.list ((h.new U:H c g b t ((k,.dict (wp []))::X) (upd σ k (.dict []))).loc (.tail _ J))) (λs ρ σ=>∀Z:Prop,(∀M T u,ρ=[some (.ref a),some (nV (ni (bV s))),some (.ref k),M,T,u]->H c g b t ((k,.dict (wp ((aH (bV s)).foldl eJ [])))::X) σ->Z)->Z) (λZ z=>z none none none rfl (h.new U:H c g b t ((k,.dict (wp []))::X) (upd σ k (.dict [])))) (λs x r e R hR ρ σ i=>i _ λM T u n C=>?_) λρ σ i=>i _ λM T u n C=>?_
 ·refine rR n ?_;have w:x∈xs:=rR e (PK _ (.head _));have lw:(aH (bV s)).length+x.1.2.length<=(aH (bV xs)).length:=by refine rR e (rR Da (rR PQ (rR (show aH (bV (x::r))=x.1.2++aH (bV r) from QE) (rR PQ ?_))));exact P8 (PM _ _) _
  refine⟨.list (C.loc (.tail _ J)),_,_,rfl,B4 (.or ?_)⟩;simp only[Bf];refine gO (f:=V.str) (.list (C.loc (.tail _ (L x w)))) (λs' ρ σ=>∀Z:Prop,(∀u,ρ=[some (.ref a),some (nV (ni (bV s)|||x.1.1)),some (.ref k),some (nV x.1.1),some (.ref x.2),u]->H c g b t ((k,.dict (wp (s'.foldl eJ ((aH (bV s)).foldl eJ []))))::X) σ->Z)->Z) (λZ z=>z u rfl C) (λs' y r' N R' I ρ σ i=>i _ λu n j=>?_) λρ σ i=>i _ λu n j=>⟨.list (j.loc (.tail _ (L x w))),hR _ _ λZ z=>z (some (nV x.1.1)) (some (.ref x.2)) u (n.trans ?_) ?_⟩
  ·refine rR n ?_;have ln:(s'.foldl eJ ((aH (bV s)).foldl eJ [])).length<=lim:=by refine ID ((dJ (l:=s') (dJ (l:=aH (bV s)) .nil).1).2.2) (ID (PX (dJ (l:=aH (bV s)) .nil).2.2 _) (ID ?_ (ID (P2 Y) dD)));simp only[SK,Rh];exact ID (P8 (by refine rR N (rR PQ ?_);exact PM _ _) _) lw
   refine⟨.list (j.loc (.tail _ (L x w))),jT (j.loc (.head _)) (Dd (so x w y (rR N (PK _ (.head _))))) (ID (PI (PL _)) ln) (I _ _ λZ z=>z _ rfl ?_)⟩;simp only[C1,Tw];exact j.head
  ·exact rR (show bV (s++[x])=bV s++[x.1] from PU) (PR (λm=>[some (V.ref a),some (nV m),some (V.ref k),some (nV x.1.1),some (V.ref x.2),u]) rh.symm)
  simp only[Da,Tw,show aH (bV [x])=x.1.2 from Qm _];exact j
 ·refine rR n ?_;unfold i4 be at q;refine⟨.list (C.loc (.tail _ J)),da (.and ?_)⟩;have tr:∀{A B:Prop}{σ},((ni (bV xs)).testBit 12=true->A)->((ni (bV xs)).testBit 12=false->B)->qh A B σ (.int (Builtin.bitAnd ((ni (bV xs):Nat):Int) 4096)):=λ{A B σ} C j=>by unfold qh;exact(oW _ .int (λz=>C (zC▸z)) (λz=>j (zC▸z)))
  refine tr (λz=>?_) λz=>?_
  ·replace q:=(PW z)▸q;exactλG v=>q G _ (C.tail.new v)
  replace q:=(PV (Qv.mp z))▸q;refine kX (.sortS (l:=(aH (bV xs)).foldl eJ []) (C.loc (.head _)) (PJ (PI (PL _)) (PJ (dJ (l:=aH (bV xs)) (K:=[]) .nil).2.2 (PJ (PI (Rh _)) Y))) (by unfold wp;simp only[QA];rfl) λl' p o G v=>?_);have e:l'=rY (aH (bV xs)):=by exact rJ (yj o) (eP (aH (bV xs))).1 (p.nodup_iff.mpr (dJ (l:=aH (bV xs)) (K:=[]) .nil).1) (eP (aH (bV xs))).2.1 λx=>p.mem_iff.trans (((dJ (l:=aH (bV xs)) (K:=[]) .nil).2.1 x).trans ((S0 PH).trans ((eP (aH (bV xs))).2.2 x).symm))
  exact(e)▸(q G _ (C.tail.new v))
end
end
mutual
noncomputable def bv(l:Y9):Nat:=(l.map λs=>s.length+1).sum
def jh(es:nZ):Nat:=(es.map λx=>bv x.1.2+20).sum
theorem rD{m:Nat}(h:m<10000):(xV (m:Int)).length<=4:=PyProof.Rows.toString_length_le (by lia) dD (by omega)
theorem mJ(hs:sep.length=1):(gW sep l).length<=bv l/\(l.map (·.length)).sum+l.length*sep.length=bv l:=by
 have e:(l.map (·.length)).sum+l.length*sep.length=bv l:=by
  simp only[hs,Nat.mul_one];induction l with
  |nil=>rfl
  |cons a L ih=>simp only[bv,QG,TI,RI] at ih⊢;exact Qz (lq (fW ih)) (lq (mO ih))
 refine⟨e▸?_,e⟩;show(Builtin.Str.glued sep l).length<=_;rw[TA];exact StrLaws.join_length_le sep l
theorem c1:(Str.ofString "{").length=1/\(Str.ofString "}").length=1/\(Str.ofString ",").length=1/\(Str.ofString " ").length=1/\(Str.ofString "[").length=1/\(Str.ofString "]").length=1/\(Str.ofString "r").length=1/\(Str.ofString "").length=0/\(Str.ofString "!").length=1/\(Str.ofString "?").length=1/\(Str.ofString "*").length=1:=by decide+kernel
theorem pH:(wT s).length=1:=by
 unfold wT;split
 ·exact c1.2.2.2.2.2.2.2.2.1
 split
 ·exact c1.2.2.2.2.2.2.2.2.2.1
 exact c1.2.2.2.2.2.2.2.2.2.2
theorem DQ{x:eY×Nat}(h:x.1.1<8192):(cQ x).length<=bv x.1.2+8:=by unfold cQ;simp only[Qf,Qf,Qf,Qf,c1.1,c1.2.1,pH];exact lq (aO (rD (Q0 h (by decide:8192<10000))) ((mJ (l:=x.1.2) c1.2.2.1).1))
theorem tF:∀{es:nZ},(∀x∈es,x.1.1<8192)->bv (es.map cQ)<=jh es:=by
 intro l;induction l with
 |nil=>intro _;exact PD _
 |cons x es ih=>intro h;have i:=ih λy B=>h y (.tail _ B);have w:=DQ (h x (.head _));simp only[jh,bv,QG,TI] at i w⊢;exact lq (aO i w)
theorem pe(r:Bool):(Nw r).length<=1:=by
 induction r
 ·exact ID (PI c1.2.2.2.2.2.2.2.1) (PY _)
 exact PI c1.2.2.2.2.2.2.1
theorem Du(h:∀x∈es,x.1.1<8192):(cK es r).length<=jh es+3:=by unfold cK;simp only[Qf,Qf,Qf,c1.2.2.2.2.1,c1.2.2.2.2.2.1];exact lq (aO (ID (mJ (l:=es.map cQ) c1.2.2.2.1).1 (tF h)) (pe r))
def yV(y:(eY×Addr)×Nat):V:=.tup [vV y.1,nV y.2]
noncomputable abbrev eM(ys:List ((eY×Addr)×Nat)):nZ:=ys.map λy=>(y.1.1,y.2)
end
section
variable{c:cR}{g:bM}{b t d:Nat}{X:Y8}{σ:Hp}{Q:KV}{l:Addr}{ns:Z9}{a:Addr}
theorem Li{A B:Prop}(tr:Tr σ v r)(C:r=true->A)(e:r=false->B):qh A B σ v:=by unfold qh;exact(oW r tr C e)
theorem rG(h:x.length+y.length<=1000000)(q:Q (.str (x++y)) σ):tL .Add (.str x) Q (.str y) σ:=da (.adds h q)
theorem Gm:∀s,s<=2->(Str.ofString "!?*").cps[((s:Nat):Int).toNat]?.map (λc=>(⟨#[c]⟩:Str))=some (wT s):=by decide+kernel
theorem CD(h:H c g b t X σ){ro:V}(ha:(a,.list (ys.map yV))∈X)(kp:∀y∈ys,Kp X y.1)(N:∀y∈ys,y.1.1.1<8192/\y.2<=2)(tr:∀σ,Tr σ ro r)(u:jh (eM ys)<=100000)(q:∀p,H c g b t X p->Q (.str (cK (eM ys) r)) p):ad (aa l ns) (d+1) 1226 [.ref a,ro] σ Q:=by
 have ln:ys.length<=100000:=by
  refine ID ?_ u;generalize ys=L;induction L with
  |nil=>exact PD _
  |cons y L ih=>simp only[jh,eM,QG,TI,RI] at ih⊢;exact lq ih
 have i:∀x∈eM ys,x.1.1<8192:=λx hx=>by refine am (P1.mp hx) λy B C=>?_;subst C;exact(N y B).1
 refine ah (F:=pQ) rfl rfl (wG (f:=yV) (λy=>V.str (cQ (y.1.1,y.2))) (.list (h.loc ha)) (ID ln dD) (λy B R Y=>⟨_,_,rfl,?_⟩) λk hk=>?_)
 ·have lw:bv y.1.1.2+20<=100000:=by
   refine ID ?_ u;refine i5 (List.append_of_mem B) λs r n=>rR n ?_;simp only[jh,eM,PU,QG,RC,TI];exact dA
  have I:=rD (Q0 (N y B).1 (by decide:8192<10000));have w:=mJ (l:=y.1.1.2) c1.2.2.1;have A:=c1.1;have U:=pH (s:=y.2);refine bx rfl (kX (.str (ID (P2 (N y B).1) dD) (rG (lq (aO I (fW A))) (bk .join (bx rfl (kJ (.join (h.loc (kp y B)) (lq (aO lw (fW w.2))) (rG (by rw[Qf];exact lq (aO lw (aO I (aO w.1 (fW A))))) (rG (by rw[Qf,Qf];exact lq (aO lw (aO I (aO w.1 (aO (fW A) (fW c1.2.1)))))) ?_)))))))));exact PO (QZ.mp (Gm y.2 (N y B).2)) λcc M=>qf (.char (Rb _) (Vn (SE.mpr (N y B).2) dD) M.1) (rR M.2 (rG (by rw[Qf,Qf,Qf];exact lq (aO lw (aO I (aO w.1 (aO (fW A) (aO (fW c1.2.1) (fW U))))))) Y))
 ·have G:=h.new (o:=.list (ys.map λy=>V.str (cQ (y.1.1,y.2)))) hk;have T:=G.loc (.head _);rw[show(ys.map λy=>V.str (cQ (y.1.1,y.2)))=((eM ys).map cQ).map V.str by refine rR QA (rR QA ?_);rfl] at G T⊢;have J:=mJ (l:=(eM ys).map cQ) c1.2.2.2.1;have j:=tF i;have A:=c1.2.2.2.2.1;have m:∀{v:KV},(v (.str (Nw r)) (upd σ k (.list (((eM ys).map cQ).map V.str))))->qh (v (.str "r") (upd σ k (.list (((eM ys).map cQ).map V.str)))) (v (.str "") (upd σ k (.list (((eM ys).map cQ).map V.str)))) (upd σ k (.list (((eM ys).map cQ).map V.str))) ro:=λ{v} z=>Li (tr _) (λe=>by subst e;exact z) λe=>by subst e;exact z
  exact m (rG (lq (aO (fW A) (pe r))) (bk .join (kJ (.join T (lq (aO u (aO (fW J.2) j))) (rG (by rw[Qf];exact lq (aO u (aO J.1 (aO j (aO (fW A) (pe r)))))) (rG (by rw[Qf,Qf];exact lq (aO u (aO J.1 (aO j (aO (fW A) (aO (fW c1.2.2.2.2.2.1) (pe r))))))) (q _ G.tail)))))))
end
section
open PyProof.Rows
mutual
theorem lV:PyData.strOk s=true↔∀c∈s.cps.toList,c<0x110000:=by unfold PyData.strOk;rw[<-Array.all_toList,Qc];exact⟨λh c z=>P9 (h c z),λh c z=>Qg (h c z)⟩
theorem lP(h:PyData.strOk a=true)(h':PyData.strOk b=true):PyData.strOk (a++b)=true:=lV.mpr λc z=>(mem_cps_append.mp z).elim (lV.mp h c) (lV.mp h' c)
theorem bJ(s:String):PyData.strOk (Str.ofString s)=true:=lV.mpr λc z=>by
 rw[Str.ofString_eq_toList] at z;refine am (P1.mp z) λx _ w=>(Qe (w))▸(RD (x.valid) (λh=>?_) λh=>?_)
 ·exact Q0 h dD
 exact h.2
theorem zH(hs:PyData.strOk sep=true)(h:∀s∈l,PyData.strOk s=true):PyData.strOk (gW sep l)=true:=by show PyData.strOk (Builtin.Str.glued sep l)=true;rw[TA];exact lV.mpr λc A=>((mem_join sep c l).mp A).elim (λo=>am (o) λt ht z=>lV.mp (h t ht) c z) λz=>lV.mp hs c z.2
theorem zJ(h:∀x∈es,∀s∈x.1.2,PyData.strOk s=true):PyData.strOk (cK es r)=true:=by
 have w:∀x∈es,PyData.strOk (cQ x)=true:=λx i=>lP (lP (lP (lP (bJ _) (bJ _)) (zH (bJ _) (h x i))) (bJ _)) (by
  unfold wT;split
  ·exact bJ _
  split<;>exact bJ _);refine lP (lP (lP ?_ (bJ _)) (zH (bJ _) λs hs=>am (P1.mp hs) λx i e=>e▸w x i)) (bJ _);induction r<;>exact bJ _
theorem m9:bv (a++b)=bv a+bv b:=by unfold bv;exact rR PU (rR RC rfl)
theorem AU(h:a.Perm b):bv a=bv b:=(h.map _).sum_nat
theorem BB(l:Y9):bv (rY l)<=bv l/\(rY l).length<=l.length:=by
 have g:∀(l K:Y9),bv (l.foldl eJ K)<=bv K+bv l:=λl=>by
  induction l with
  |nil=>exactλK=>PD _
  |cons s l ih=>
   intro K;refine ID (ih (eJ K s)) ?_;have h:bv (eJ K s)<=bv K+(s.length+1):=by
    unfold eJ;split
    ·exact PM _ _
    exact rR m9 (PD _)
   exact ID (PX h _) (PI (QH ..))
 refine⟨?_,?_⟩
 ·show bv (List.mergeSort _ _)<=_;exact rR (AU (S8 (l.foldl eJ []) Em)) (ID (g l []) (PI (Rh _)))
 exact ID (PI (S8 (l.foldl eJ []) Em).length_eq) (ID (dJ (l:=l) (K:=[]) .nil).2.2 (PI (Rh _)))
structure Rk(L W:Nat)(vs:List eY):Prop where
 l:bv (aH vs)<=L
 w:(aH vs).length<=W
 a:∀v∈vs,v.1<8192/\∀s∈v.2,PyData.strOk s=true
structure Re(L W:Nat)(es:nZ):Prop where
 l:jh es<=L
 w:(aH (es.map (·.1))).length<=W
 a:∀x∈es,(x.1.1<8192/\∀s∈x.1.2,PyData.strOk s=true)/\x.2<=2
theorem mP:jh es=bv (aH (es.map (·.1)))+20*es.length:=by
 induction es with
 |nil=>rfl
 |cons x es ih=>show(bv x.1.2+20)+jh es=bv (x.1.2++aH (es.map (·.1)))+20*(es.length+1);refine rR m9 (rR ih ?_);exact Qz dA dA
theorem vD:jh (a++b)=jh a+jh b:=by unfold jh;exact rR PU (rR RC rfl)
theorem zD{a b:nZ}:aH ((a++b).map (·.1))=aH (a.map (·.1))++aH (b.map (·.1)):=(PR aH PU).trans Qx
theorem Re.app{es u:nZ}(h:Re L W es)(h':Re L' W' u):Re (L+L') (W+W') (es++u):=
 ⟨ID (PI vD) (Qu h.l h'.l),ID (PI ((PR List.length zD).trans PQ)) (Qu h.w h'.w),λx i=>(P3.mp i).elim (h.a x) (h'.a x)⟩
theorem Mf(h:∀v∈l,v.1<8192):ni l<8192:=by
 induction l with
 |nil=>decide
 |cons v l ih=>exact Nat.or_lt_two_pow (n:=13) (h v (.head _)) (ih λu B=>h u (.tail _ B))
theorem Rk.join(h:Rk L W vs):Rk L W [be vs]:=by
 have e:∀v:eY,aH [v]=v.2:=λv=>Qm v.2;refine⟨?_,?_,λv p=>?_⟩
 ·rw[e];unfold be;by_cases z:(ni vs).testBit 12=true
  ·exact rR (PW z) (PY _)
  rw[PV z];exact ID (BB (aH vs)).1 h.l
 ·rw[e];unfold be;by_cases z:(ni vs).testBit 12=true
  ·exact rR (PW z) (PY _)
  rw[PV z];exact ID (BB (aH vs)).2 h.w
 refine rR (PG.mp p) ⟨Mf λv p=>(h.a v p).1,?_⟩;unfold be;by_cases z:(ni vs).testBit 12=true
 ·rw[PW z];exact bP
 refine rR (PV z) ?_;intro s hs;exact PO (Rs.mp (((eP (aH vs)).2.2 s).mp hs)) λv x=>(h.a v x.1).2 s x.2
theorem Rk.app(h:Rk L W es)(h':Rk L' W' fs):Rk (L+L') (W+W') (es++fs):=
 ⟨by rw[aH,Qx,m9];exact Qu h.l h'.l,by rw[aH,Qx,PQ];exact Qu h.w h'.w,λx i=>(P3.mp i).elim (h.a x) (h'.a x)⟩
theorem Rk.mono(h:Rk L W vs)(a:L<=L')(b:W<=W'):Rk L' W' vs:=⟨ID h.l a,ID h.w b,h.a⟩
theorem Ke:Rk 0 0 [((1,[]):eY)]:=⟨PD _,PD _,λv p=>rR (PG.mp p) ⟨by decide,bP⟩⟩
theorem Rk.late(h:Rk L W [x.1]):Rk L W [cH x]:=by
 unfold cH;by_cases e:x.2=1
 ·exact rR (PW e) ((h.app Ke).join)
 exact rR (PV e) h
theorem Re.one(h:Rk L W [v])(M:m<=2):Re (L+20) W [(v,m)]:=
 ⟨by refine rR mP ?_;exact PX h.l 20,h.w,λx i=>rR (PG.mp i) ⟨h.a v (.head _),M⟩⟩
theorem Re.mono(h:Re L W vs)(a:L<=L')(b:W<=W'):Re L' W' vs:=⟨ID h.l a,ID h.w b,h.a⟩
theorem GJ:∀{es:nZ},(∀x∈es,(x.1.1<8192/\∀s∈x.1.2,PyData.strOk s=true)/\x.2<=2)->Rk (bv (aH (es.map (·.1)))) (aH (es.map (·.1))).length (es.map cH):=by
 intro l;induction l with
 |nil=>intro _;exact⟨PD _,PD _,bP⟩
 |cons x es ih=>intro h;have i:=ih λy B=>h y (.tail _ B);have o:Rk (bv x.1.2) x.1.2.length [cH x]:=Rk.late ⟨PI (PR bv (Qm _)),PI (PR List.length (Qm _)),λv p=>rR (PG.mp p) ((h x (.head _)).1)⟩;exact(o.app i).mono (PI m9.symm) (PI PQ.symm)
theorem Re.nrm:∀{es:nZ}{L W:Nat},Re L W es->Re L W (gH es):=by
 intro l;induction l with
 |nil=>intro _ _ h;exact h
 |cons x es ih=>
  intro L W h;by_cases e:x.2=2
  ·refine rR (show gH (x::es)=_ from PW e) ?_;generalize c:ak ((x::es).map (·.2))=k;have b:1<=k:=sB c (wK (by refine rR e ?_;decide):1<=ak (x.2::es.map (·.2)));have a:1<=((x::es).take k).length:=by exact rR RK (Nat.le_min.mpr ⟨b,Qn (PY _)⟩)
   have n:=GJ (es:=(x::es).take k) λy B=>h.a y (QP B);have r:=h.l;have J:=h.w;rw[<-(Rm k (x::es)),vD,mP] at r;rw[<-(Rm k (x::es)),zD,PQ] at J;refine((Re.one n.join (PD 2)).app (⟨PD _,PD _,λy B=>h.a y (QQ B)⟩:Re _ _ ((x::es).drop k))).mono (ID ?_ r) J;exact PX (P8 (QC 20 a) _) _
  refine rR (show gH (x::es)=_ from PV e) ?_;have i:Rk (bv x.1.2) x.1.2.length [x.1]:=⟨PI (PR bv (Qm _)),PI (PR List.length (Qm _)),λv p=>rR (PG.mp p) ((h.a x (.head _)).1)⟩;have z:Re (bv x.1.2+20) x.1.2.length [if x.2=1/\0∈es.map (·.2) then(cH x,0) else x]:=by
   by_cases m:x.2=1/\0∈es.map (·.2)
   ·exact rR (PW m) (Re.one i.late (PY _))
   exact rR (PV m) (Re.one i (h.a x (.head _)).2)
  exact(z.app (ih ⟨PD _,PD _,λy B=>h.a y (.tail _ B)⟩:Re (jh es) (aH (es.map (·.1))).length (gH es))).mono h.l (ID (PI PQ.symm) h.w)
noncomputable def lb:Tm->Nat×Nat
 |.nil=>(0,0)|.cons a r=>((lb a).1+(lb r).1,(lb a).2+(lb r).2)|.leaf _=>(0,0)|.uni l=>((lb l).1,0)|.int _=>(0,0)|.arr t=>((lb t).1+30,(lb t).1+20)|.tup l=>((lb l).2+10,(lb l).2)
 |.ro t=>(lb t)|.el s t=>(0,if s=2 then(lb t).2 else(lb t).1+20)
noncomputable def Ex:Tm->Prop
 |.cons a r=>Ex a/\Ex r|.uni l=>Ex l|.int l=>Ex l|.arr t=>Ex t|.tup l=>Ex l|.ro t=>Ex t|.el s t=>s<=2/\Ex t|_=>True
theorem DB:∀{T:Tm},gw T=true->(lb T).2+10<=(lb T).1/\1<=pb T
 |.arr t,_=>⟨PI (QH ..),PD _⟩
 |.tup l,_=>⟨PD _,PD _⟩
 |.ro t,h=>DB (T:=t) h
 |.nil,h=>VC h PC
 |.cons _ _,h=>VC h PC
 |.leaf _,h=>VC h PC
 |.uni _,h=>VC h PC
 |.int _,h=>VC h PC
 |.el _ _,h=>VC h PC
theorem Re.text(h:Re L W es):Rk (L+10) 1 [((0,[cK es r]):eY)]:=
 ⟨ID (PX (Du λx i=>(h.a x i).1.1) 1) (ID (PX (PX h.l 3) 1) (P8 (by decide:4<=10) L)),PD _,λv p=>by exact rR (PG.mp p) ⟨(by decide:0<8192),λs hs=>(Qe (PG.mp hs))▸(zJ λx i=>(h.a x i).1.2)⟩⟩
theorem v9(h:m<8192):Rk L W [((m,[]):eY)]:=⟨PY _,PY _,λv p=>rR (PG.mp p) ⟨h,bP⟩⟩
theorem dF:∀T:Tm,Ex T->Rk (lb T).1 (pb T) [(val T).v]/\Re (lb T).2 (eb T) (val T).e/\Rk (lb T).1 (pb T) (val T).k
 |.nil,_=>⟨v9 dD,⟨PD _,PD _,bP⟩,⟨PD _,PD _,bP⟩⟩
 |.cons a r,h=>have A:=dF a h.1;have R:=dF r h.2;⟨v9 dD,A.2.1.app R.2.1,A.1.app R.2.2⟩
 |.leaf i,_=>⟨v9 (by
   delta wd G9;by_cases h:i<15
   ·exact(by decide:∀i,i<15->([1,2,4,8,16,32,128,256,896,112,12,1025,2048,8191,0][i]?).getD 0<8192) i h
   refine rR (SL (QU h)) ?_;decide),⟨PD _,PD _,bP⟩,⟨PD _,PY _,bP⟩⟩
 |.uni l,h=>⟨(dF l h).2.2.join,⟨PD _,PD _,bP⟩,⟨PY _,PY _,bP⟩⟩
 |.int l,_=>⟨v9 (by
   have g:∀(vs:List eY)(m:Nat),m<8192->vs.foldl (λm v=>m&&&v.1) m<8192:=λvs=>by
    induction vs with
    |nil=>exactλm h=>h
    |cons v vs ih=>exactλm h=>ih _ (PJ Nat.and_le_left h)
   exact g _ _ dD),⟨PD _,PD _,bP⟩,⟨PY _,PY _,bP⟩⟩
 |.arr t,h=>have e:=Re.one (dF t h).1 (PD 2);⟨e.text,e,⟨PY _,PY _,bP⟩⟩
 |.tup l,h=>have e:=(dF l h).2.1.nrm;⟨e.text,e,⟨PY _,PY _,bP⟩⟩
 |.ro t,h=>have i:=dF t h;⟨by
   show Rk (lb t).1 (pb t) [if gw t then(0,[cK (val t).e true]) else(val t).v];by_cases z:gw t=true
   ·exact rR (PW z) (i.2.1.text.mono (DB z).1 (DB z).2)
   refine rR (PV z) ?_;exact i.1,i.2.1,⟨PY _,PY _,bP⟩⟩
 |.el s t,h=>have i:=dF t h.2;⟨v9 dD,by
   show Re (if s=2 then(lb t).2 else(lb t).1+20) (if s=2 then eb t else pb t+(if s=1 then 1 else 0)) (if s=2 then(val t).e else[((val t).v,s)]);by_cases z:s=2
   ·refine rR (PW z) (rR (PW z) (rR (PW z) ?_));exact i.2.1
   refine rR (PV z) (rR (PV z) (rR (PV z) ?_));exact(Re.one i.1 h.1).mono (PD _) (PM _ _),⟨PY _,PY _,bP⟩⟩
end
end
theorem CL(h:∀x,x∈l↔x∈r):rY l=rY r:=
 have a:=eP l;have b:=eP r
 rJ a.1 b.1 a.2.1 b.2.1 λx=>(a.2.2 x).trans ((h x).trans (b.2.2 x).symm)
theorem A6:be [be hs,v]=be (hs++[v]):=by
 have e:ni [be hs,v]=ni (hs++[v]):=by exact rR rh (PR (ni hs||| ·) (Nat.or_zero v.1))
 unfold be;refine rR (show ni [(ni hs,if(ni hs).testBit 12=true then[] else rY (hs.flatMap (·.2))),v]=ni (hs++[v]) from e) ?_;by_cases z:(ni (hs++[v])).testBit 12=true
 ·exact rR (PW z) (rR (PW z) rfl)
 rw[PV z,PV z];have i: ¬(ni hs).testBit 12=true:=λh=>z (by rw[rh,Ub,h];rfl);refine rR (PV i) (PR (Prod.mk _) (CL λx=>?_));rw[Qx,P3,QE,P3,(eP _).2.2]
def fY(B:Bool)(hs:List eY)(r:nZ):nZ:=
 bif B then(if ak (r.map (·.2))=0 then r else(be (hs++(r.take (ak (r.map (·.2)))).map cH),2)::r.drop (ak (r.map (·.2)))) else gH r
section
variable{hs:List eY}{x:eY×Nat}{r:nZ}
theorem fc:∀{ms:W9},ak ms=0↔∀m∈ms,m=0:=by
 intro l;induction l with
 |nil=>exact⟨λa m h=>VC h PH,λa=>rfl⟩
 |cons m r ih=>
  rw[TL,<-ih];show(if ak r=0 then(if m=0 then 0 else 1) else ak r+1)=0↔_;by_cases z:ak r=0
  ·refine rR (PW z) ?_;by_cases y:m=0
   ·rw[PW y];exact⟨λa=>⟨y,z⟩,λa=>rfl⟩
   exact rR (PV y) ⟨λh=>VC h dD,λh=>VC h.1 y⟩
  rw[PV z];exact⟨λh=>VC h (UA _),λh=>VC h.2 z⟩
theorem gA(e:x.2=2):fY false [] (x::r)=fY true [] (x::r):=by have w:ak ((x::r).map (·.2))≠0:=λh=>VC ((fc.mp h) x.2 (.head _)) (by refine rR e ?_;decide);show gH (x::r)=_;exact rR (show gH (x::r)=_ from PW e) ((PV w).symm)
theorem gB(h:ak ((x::r).map (·.2))≠0)(z:ak (r.map (·.2))=0):fY true hs (x::r)=[(be (hs++[cH x]),2)]++fY true (hs++[cH x]) r:=by
 have w:ak ((x::r).map (·.2))=1:=by
  have e:ak ((x::r).map (·.2))=if x.2=0 then 0 else 1:=PW z;by_cases y:x.2=0
  ·rw[PW y] at e;exact VC e h
  rw[PV y] at e;exact e
 refine rR (show fY true hs (x::r)=_ from PV h) (rR w (rR (show fY true (hs++[cH x]) r=r from PW z) ?_));rfl
theorem gC(z:ak (r.map (·.2))≠0):fY true hs (x::r)=fY true (hs++[cH x]) r:=by have w:ak ((x::r).map (·.2))=ak (r.map (·.2))+1:=PV z;rw[show fY true hs (x::r)=_ from PV (w▸UA _),w,show fY true (hs++[cH x]) r=_ from PV z,Qo];rfl
theorem gD(z:ak ((x::r).map (·.2))=0):fY true hs (x::r)=[x]++fY true hs r/\x.2=0:=by have a:=fc.mp z;exact rR (show fY true hs (x::r)=x::r from PW z) (rR (show fY true hs r=r from PW (fc.mpr λm M=>a m (.tail _ M))) ⟨rfl,a x.2 (.head _)⟩)
theorem gE(e:x.2≠2):fY false [] (x::r)=[if x.2=1/\0∈r.map (·.2) then(cH x,0) else x]++fY false [] r:=PV e
end
noncomputable def ix(P:Nat->Bool)(ms:W9):W9:=(List.range ms.length).filter λi=>P ((ms[i]?).getD 0)
section
variable{P:Nat->Bool}{ms s r:W9}{m:Nat}
theorem lr:i∈ix P ms↔∃x,ms[i]?=some x/\P x=true:=by unfold ix;rw[List.mem_filter,Sw];refine⟨λo=>by have h:=o.1;have p:=o.2;exact(aK (ms[i]) (P4 h) (by rw[P4 h] at p;exact p)),λG=>am G λx e p=>⟨(Qi.mp e).1,by exact rR e p⟩⟩
theorem I3:(ix P ms).Pairwise (· < ·):=List.pairwise_lt_range.filter _
theorem L1:(∃i∈ix P ms,i<k)↔∃x∈ms.take k,P x=true:=by
 refine⟨λQ=>am Q λi hi l=>?_,λq=>am q λx h p=>?_⟩
 ·exact am (lr.mp hi) λx e p=>(aK x (QO (i:=i) (by refine rR (List.getElem?_take_of_lt l) ?_;exact e)) p)
 obtain⟨i,e⟩:=TC.mp h;rw[List.getElem?_take] at e;by_cases l:i<k
 ·rw[PW l] at e;exact(aK i (lr.mpr (aK x e p)) l)
 rw[PV l] at e;exact bY e
theorem KZ:(∃i∈ix P ms,k<=i)↔∃x∈ms.drop k,P x=true:=by
 refine⟨λQ=>am Q λi hi l=>?_,λq=>am q λx h p=>?_⟩
 ·exact am (lr.mp hi) λx e p=>(aK x (QO (i:=i-k) (by refine rR Vt (rR (TR l) ?_);exact e)) p)
 obtain⟨i,e⟩:=TC.mp h;simp only[Vt] at e;exact(aK (k+i) (lr.mpr (aK x e p)) (PM _ _))
theorem pC(h:ix P ms≠[]):∃i j,(ix P ms)[0]?=some i/\(ix P ms)[(ix P ms).length-1]?=some j/\(∀k,i<k↔∃x∈ms.take k,P x=true)/\∀k,k<=j↔∃x∈ms.drop k,P x=true:=by
 have b:=I3 (P:=P) (ms:=ms);have lo:=λk=>L1 (P:=P) (ms:=ms) (k:=k);have hi:=λk=>KZ (P:=P) (ms:=ms) (k:=k);generalize ix P ms=L at*;refine i5 (List.exists_cons_of_ne_nil h) λi L' t=>?_;subst t;have u:(i::L').length-1<(i::L').length:=Te (Ra _) dD;refine(Et i ((i::L')[(i::L').length-1]) rfl (P4 u) (λk=>Iff.trans ⟨λz=>(aK i (.head _) z),λf=>am f λj I z=>?_⟩ (lo k)) (λk=>Iff.trans ⟨λz=>⟨_,Rq u,z⟩,λT=>am T λj I z=>ID z ?_⟩ (hi k)))
 ·exact(P0.mp I).elim (λe=>sB e z) λm=>Q0 ((RJ.mp b).1 j m) z
 obtain⟨n,g,rfl⟩:=UU.mp I;rcases Nat.lt_or_ge n ((i::L').length-1) with q|q
 ·exact P2 (Uh.mp b n _ g u q)
 have e:n=(i::L').length-1:=Qz (SV g) q;subst e;exact PD _
theorem uL(h:ix P ms=[]):∀x∈ms,P x=false:=λx j=>Qv.mpr λp=>by obtain⟨i,e⟩:=TC.mp j;exact VC (sB h (lr.mpr (aK x e p)):i∈[]) PH
end
def GX:S:=match oE with|.seq _ (.seq _ (.seq _ (.seq _ t)))=>t|_=>.nil
abbrev Ys:=List ((eY×Addr)×Nat)
noncomputable abbrev eF(ys:Ys):W9:=ys.map (·.2)
section
variable{c:cR}{g:bM}{b t d:Nat}{X:Y8}{σ:Hp}{Q:KV}{l:Addr}{ns:Z9}{a:Addr}{ys:Ys}{P:Nat->Bool}{T:nc}{C:cj}{ρ:Env}{K:KS}
mutual
theorem J3{p:Nat->Bool}:∀{L:W9},L.filterMap (λi=>if p i=true then some (nV i) else none)=(L.filter p).map nV:=by
 intro m;induction m with
 |nil=>exact rfl
 |cons i L ih=>
  by_cases z:p i=true
  ·refine rR Rt (rR (PW z) (rR (Uy z) (rR ih ?_)));rfl
  exact rR Rt (rR (PV z) (rR (Ux z) (rR ih rfl)))
theorem Jc{p:pa}{cs:M4}(r:ys.length<=lim)(step:∀i y,ys[i]?=some y->∀R:KO,R (if P y.2=true then some (nV i) else none) σ->nK p (nV i) ρ λe=>cs e σ (Cm elt e R))(U:alloc (.list ((ix P (eF ys)).map nV)) σ Q):iA elt p cs ρ Q (.rng ys.length) σ:=by
 refine zE (f:=nV) (xs:=List.range ys.length) (λi=>if P (((eF ys)[i]?).getD 0)=true then some (nV i) else none) (.rng r) (ID (PI QT) r) (λi hi R N=>?_) ?_
 ·have hi:=Sw.mp hi;refine step i ys[i] (P4 hi) R ?_;rw[cZ hi] at N;exact N
 refine rR J3 ?_;unfold ix at U;rw[PL] at U;exact U
theorem BY{k:W9}(e:σ a=some (.list (k.map nV)))(h:k[k.length-1]?=some j)(q:Q (nV j) σ):dS (.ref a) Q (.int (-1)) σ:=by refine qf (.list e ?_) q;have f:0<k.length:=PJ (PY _) (Qi.mp h).1;unfold Eu;rw[PV dD,PW dD,PL,PV (by omega),show((k.length:Int)+ -1).toNat=k.length-1 by lia,QS,h];rfl
theorem Pw(h:qa σ op x y u)(G:u=true->ce ρ σ (eE op' y Q))(e:u=false->Q (.bool false) σ):BM op op' x ce ρ Q y σ:=by unfold BM;exact(oW u h G e)
theorem Ik{y:(eY×Addr)×Nat}(h:H c g b t X σ)(i:Kp X y.1)(u:∀s∈y.1.1.2,PyData.strOk s=true)(r:y.1.1.2.length<64)(q:∀lv Y p,lv.1=cH (y.1.1,y.2)->(Kp Y lv\/lv=y.1)->H c g b t (Y++X) p->Q (vV lv) p):
  qh (∀w,σ w=none->∀k,upd σ w (.list []) k=none->ad (aa l ns) (d+1) 1221 [.ref k] (upd (upd σ w (.list [])) k (.list [vV y.1,.tup [.int 1,.ref w]])) Q) (Q (vV y.1) σ) σ (.bool (decide (y.2=1))):=by
 refine az (λz w G k f=>?_) λz=>q y.1 [] σ (PV z).symm (.inr rfl) h
 refine uC (xs:=[y.1,((1,[]),w)]) ((h.new (o:=.list []) G).new (o:=.list ([y.1,((1,[]),w)].map vV)) f) (.head _) (eg (.tail _ (.tail _ i)) (eg (.tail _ (.head _)) (bP))) (eg u (eg (bP) (bP))) ?_ λj e N=>q _ [_,_,_] e (PW z).symm (.inl (.head _)) N
 show(y.1.1.2++[]).length<64
 rw[Qm];exact r
def GF(Y:Y8)(ys:Ys)(y:(eY×Addr)×Nat):Prop:=Kp Y y.1\/∃z∈ys,z.1=y.1
theorem GF.app(h:GF Y ys y):GF (Z++Y) ys y:=h.imp_left λk=>PK _ k
def MJ(c:cR)(g:bM)(b t:Nat)(X:Y8)(ys:Ys)(Q:KV):=∀a os Y σ,eM os=gH (eM ys)->(∀y∈os,GF Y ys y)->H c g b t ((a,.list (os.map yV))::(Y++X)) σ->Q (.ref a) σ
def G8(c:cR)(g:bM)(b t:Nat)(X:Y8)(es:nZ)(Q:KV):=∀a os Y σ,eM os=es->(∀y∈os,Kp Y y.1)->H c g b t ((a,.list (os.map yV))::(Y++X)) σ->Q (.ref a) σ
theorem GC(h:k<ys.length):eF (ys.take (k+1))=eF (ys.take k)++[ys[k].2]:=take_snoc h
theorem qX:(eM r).map (·.2)=eF r:=QA ..
theorem join_nil:((0,[]):eY)=be []:=by decide+kernel
theorem yp:decide ((a:Int)<=b)=decide (a<=b):=QJ.mpr SE
theorem Im{ms:W9}{k:Nat}(hk:k<ms.length)(M:ms.length<=5000)(G:σ rs=some (.list ((ix (λm=>decide (m=2)) ms).map nV)))(I:σ wk=some (.list ((ix (λm=>decide (0<m)) ms).map nV)))(v:get ρ 5=some (.ref rs))(w:get ρ 6=some (.ref wk))(B:get ρ 9=some (nV k))(q:Q (.bool (decide (2∈ms.take (k+1))&& !decide (ak (ms.drop k)=0))) σ):jG false (Bk T C (.cons (.cmp2 .LtE .LtE (.item (.var 5) (.lit (.int 0))) (.var 9) (.item (.var 6) (.neg (.lit (.int 1))))) .nil) false) ρ Q (.bool (decide ((0:Int)<(((ix (λm=>decide (m=2)) ms).map nV).length:Nat)))) σ:=by
 have two:∀{L:W9},(∃x∈L,decide (x=2)=true)↔2∈L:=⟨λz1=>am (z1) λx r A=>sB (P9 A) r,λh=>(aK 2 h rfl)⟩
 by_cases n:ix (λm=>decide (m=2)) ms=[]
 ·have Y:2∉ms.take (k+1):=λh=>VC (uL n 2 (QP h)) dD;rw[Qb Y] at q;exact rR n (af q)
 ·refine oU (pC n) λi ø f _ lo _=>?_;have U:ix (λm=>decide (0<m)) ms≠[]:=λz=>by refine am (lr.mp (QO f)) λx J p=>?_;have:=P9 p;subst this;exact VC (uL z 2 (QO J)) dD
  refine oU (pC U) λø j _ o _ hi=>?_;have hi:k<=j↔ ¬ak (ms.drop k)=0:=(hi k).trans ⟨λz2 z=>am (z2) λx e p=>VC (fc.mp z x e) (So (P9 p)),λz=>Rf λy=>z (fc.mpr λm N=>UI λp=>y (aK m N (Qg p)))⟩;refine rR (Qg (Td.mpr (TS.mpr λz=>n (R4.mp z):0<((ix (λm=>decide (m=2)) ms).map nV).length))) (aq (?_:Dz (get ρ 5) _));refine rR v ?_;have i6:i<1000000:=by exact PO (lr.mp (QO f)) λx s=>P5 (Qi.mp s.1).1 (ID M dD)
  refine qf (.list G (u:=nV i) ?_) ?_
  ·show(((ix (λm=>decide (m=2)) ms).map nV)[0]?)=_;refine rR QS ?_;refine rR f ?_;rfl
  show Dz (get ρ 9) _;refine rR B (Pw .le (λz=>?_) λz=>?_)
  ·show Dz (get ρ 6) _;refine rR w (kr (BY I o (cw .le ?_)));refine rR (yp.trans ((QJ.mpr hi).trans Vl):decide ((k:Int)<=j)= !decide (ak (ms.drop k)=0)) ?_;rw[<-(yp.trans (QJ.mpr (Nat.lt_succ_iff.symm.trans ((lo (k+1)).trans two)))),z] at q;exact q
  rw[<-(yp.trans (QJ.mpr (Nat.lt_succ_iff.symm.trans ((lo (k+1)).trans two)))),z] at q;exact q
theorem EE{ms:W9}{k:Nat}(r:ms.length<=5000)(en:σ nd=some (.list ((ix (λm=>decide (m=0)) ms).map nV)))(w:get ρ 4=some (.ref nd))(e:get ρ 9=some (nV k))(q:Q (.bool (decide (m=1)&&decide (0∈ms.drop (k+1)))) σ):jG false (Bk T C (.cons (.cmp .Gt (.bi .len (.cons (.var 4) .nil)) (.lit (.int 0))) (.cons (.cmp .Lt (.var 9) (.item (.var 4) (.neg (.lit (.int 1))))) .nil)) false) ρ Q (.bool (decide (m=1))) σ:=by
 refine db (λf q=>?_) q
 show Dz (get ρ 4) _
 refine rR w ?_
 have z:(ix (λm=>decide (m=0)) ms).length<=ms.length:=ID (Tz ..) (PI QT)
 refine kX (.lenL en (cO rfl (ID z (ID r dD))) (cw .gt ?_))
 by_cases n:ix (λm=>decide (m=0)) ms=[]
 ·have p:0∉ms.drop (k+1):=λh=>VC (uL n 0 (QQ h)) dD;rw[Qb p] at q;exact rR n (af q)
 ·refine oU (pC n) λf j _ Y _ hi=>?_;have hi:k+1<=j↔0∈ms.drop (k+1):=(hi (k+1)).trans ⟨λs=>am (s) λx o i=>sB (P9 i) o,λh=>(aK 0 h rfl)⟩;refine rR (Qg (Td.mpr (TS.mpr λz=>n (R4.mp z):0<((ix (λm=>decide (m=0)) ms).map nV).length))) (aq (?_:Dz (get ρ 9) _));refine rR e (?_:Dz (get ρ 4) _);refine rR w (kr (BY en Y (ez ?_)));exact rR (show decide (k<j)=decide (0∈ms.drop (k+1)) from QJ.mpr hi) q
theorem Gl(h:ak (ms.drop k)≠0):∃j,(ix (λm=>decide (0<m)) ms)[(ix (λm=>decide (0<m)) ms).length-1]?=some j/\(k=j↔ak (ms.drop (k+1))=0):=by
 have w:∀{L:W9},(∃x∈L,decide (0<x)=true)↔ ¬ak L=0:=⟨λo z=>am (o) λx N p=>VC (fc.mp z x N) (So (P9 p)),λz=>Rf λy=>z (fc.mpr λm M=>UI λp=>y (aK m M (Qg p)))⟩;have v:ix (λm=>decide (0<m)) ms≠[]:=λz=>by exact am (w.mpr h) λx u B=>VC ((uL z x (QQ u)).symm.trans B) PC
 refine oU (pC v) λi j _ f _ hi=>⟨j,f,λe=>Rf λz=>?_,λz=>Qz ((hi k).mpr (w.mpr h)) (QU λq=>(w.mp ((hi (k+1)).mp q)) z)⟩;subst e;exact Si _ ((hi (k+1)).mpr (w.mpr z))
theorem Kl(h:H c g b t X σ)(I:(a,.list (ys.map yV))∈X)(kp:∀y∈ys,Kp X y.1){W:Nat}(re:Re 100000 W (eM ys))(hW:W<64){v0:V}(q:MJ c g b t X ys Q):
  fS (aa l ns) (ad (aa l ns) (d+1)) GX [some v0,some (.ref a),w2,w3,none,none,none,none,none,none,none,none,none,none,none,none] σ (fJ Q):=by
 have ln:ys.length<=5000:=by have z:=re.l;simp only[mP,PL] at z;lia
 have hl:ys.length<=lim:=ID ln dD
 have J:(ys.map yV).length<=lim:=cO rfl hl
 have l6:∀{i},i<ys.length->i<1000000:=λh=>P5 h (ID ln dD)
 have gy:∀{i y},ys[i]?=some y->i<1000000/\(ys.map yV)[i]?=some (yV y):=λ{i y} e=>by refine PO (Qi.mp e) λhi YJ=>?_;exact(Qe YJ)▸⟨l6 hi,cZ hi⟩
 refine eZ (h.loc I) J (PL _) (Jc (P:=λm=>decide (m=0)) hl (λi y ey R N=>cm (h.loc I) (gy ey).1 (gy ey).2 (bx rfl (ag (b:=0) (az (λz=>?_) λz=>?_)))) λnd qk=>?_)
 ·rw[PW (Qg z)] at N;exact N
 ·rw[PV (λk=>z (P9 k))] at N;exact N
 have h1:=h.new (o:=.list ((ix (λm=>decide (m=0)) (eF ys)).map nV)) qk
 refine eZ (h1.loc (.tail _ I)) J (PL _) (Jc (P:=λm=>decide (m=2)) hl (λi y ey R N=>cm (h1.loc (.tail _ I)) (gy ey).1 (gy ey).2 (bx rfl (ag (b:=2) (az (λz=>?_) λz=>?_)))) λrs W1=>?_)
 ·rw[PW (Qg z)] at N;exact N
 ·rw[PV (λk=>z (P9 k))] at N;exact N
 have h2:=h1.new (o:=.list ((ix (λm=>decide (m=2)) (eF ys)).map nV)) W1
 refine eZ (h2.loc (.tail _ (.tail _ I))) J (PL _) (Jc (P:=λm=>decide (0<m)) hl (λi y ey R N=>cm (h2.loc (.tail _ (.tail _ I))) (gy ey).1 (gy ey).2 (bx rfl (cw .gt (az (λz=>?_) λz=>?_)))) λwk Y1=>?_)
 ·rw[PW (Qg (Td.mp z))] at N;exact N
 ·rw[PV (λk=>z (Td.mpr (P9 k)))] at N;exact N
 have h3:=h2.new (o:=.list ((ix (λm=>decide (0<m)) (eF ys)).map nV)) Y1
 refineλo ho h0 Z1=>?_
 have h4:=((h3.new (o:=.list []) ho).new (o:=.list []) Z1).perm (.swap ..)
 have sub:∀{p},p∈X->p∈(wk,O.list ((ix (λm=>decide (0<m)) (eF ys)).map nV))::(rs,O.list ((ix (λm=>decide (m=2)) (eF ys)).map nV))::(nd,O.list ((ix (λm=>decide (m=0)) (eF ys)).map nV))::X:=λh=>.tail _ (.tail _ (.tail _ h))
 have q':∀a os Y σ,eM os=gH (eM ys)->(∀y∈os,GF Y ys y)->H c g b t ((a,.list (os.map yV))::(Y++((wk,O.list ((ix (λm=>decide (0<m)) (eF ys)).map nV))::(rs,O.list ((ix (λm=>decide (m=2)) (eF ys)).map nV))::(nd,O.list ((ix (λm=>decide (m=0)) (eF ys)).map nV))::X))) σ->Q (.ref a) σ:=λa os Y σ e k h=>q a os (Y++[_,_,_]) σ e (λy B=>(k y B).imp_left λk=>PZ _ k) (by rw[Qo];exact h)
 have mw:=List.Mem.head (a:=(wk,O.list ((ix (λm=>decide (0<m)) (eF ys)).map nV))) ((rs,O.list ((ix (λm=>decide (m=2)) (eF ys)).map nV))::(nd,O.list ((ix (λm=>decide (m=0)) (eF ys)).map nV))::X)
 have mr:=List.Mem.tail (wk,O.list ((ix (λm=>decide (0<m)) (eF ys)).map nV)) (.head (a:=(rs,O.list ((ix (λm=>decide (m=2)) (eF ys)).map nV))) ((nd,O.list ((ix (λm=>decide (m=0)) (eF ys)).map nV))::X))
 have mn:=List.Mem.tail (wk,O.list ((ix (λm=>decide (0<m)) (eF ys)).map nV)) (.tail (rs,O.list ((ix (λm=>decide (m=2)) (eF ys)).map nV)) (.head (a:=(nd,O.list ((ix (λm=>decide (m=0)) (eF ys)).map nV))) X))
 have I:=sub I
 have kp:=λy B=>sub (kp y B)
 clear q h3 h2 h1 h sub
 generalize (wk,O.list ((ix (λm=>decide (0<m)) (eF ys)).map nV))::(rs,O.list ((ix (λm=>decide (m=2)) (eF ys)).map nV))::(nd,O.list ((ix (λm=>decide (m=0)) (eF ys)).map nV))::X=X0 at*
 refine eZ (h4.loc (.tail _ (.tail _ I))) J (PL _) (jY hl (λk ρ σ=>∀Z:Prop,(∀os u hs w9 ZJ WK XK Y,(2∉eF (ys.take k)->hs=[])->u.1=be hs->(∀v∈hs,v.1<8192/\∀s∈v.2,PyData.strOk s=true)->(aH hs).length+(aH ((eM (ys.drop k)).map (·.1))).length<=W->
   eM os++fY (decide (2∈eF (ys.take k))) hs (eM (ys.drop k))=gH (eM ys)->ρ=[some v0,some (.ref a),w2,w3,some (.ref nd),some (.ref rs),some (.ref wk),some (.ref o),some (vV u),w9,ZJ,WK,XK,none,none,none]->os.length<=k->(∀y∈os,GF Y ys y)->Kp (Y++X0) u->H c g b t ((o,.list (os.map yV))::(Y++X0)) σ->Z)->Z)
  (λZ z=>z [] ((0,[]),h0) [] none none none none [(h0,.list [])] (λø=>rfl) join_nil bP (ID (PI (Rh _)) re.w) rfl rfl (PD _) bP (.head _) h4) (λk hk R N ρ σ i=>i _ λos u hs w9 ZJ WK XK Y on G hb hw en er lo ko kv h5=>?_) λρ σ i=>i _ λos u hs w9 ZJ WK XK Y on G hb hw en er lo ko kv h5=>?_)
 ·refine rR er ?_;have up:∀{p},p∈X0->p∈(o,O.list (os.map yV))::(Y++X0):=λh=>.tail _ (PK _ h);have B:=Rq hk;have ed:ys.drop k=ys[k]::ys.drop (k+1):=RE hk;have et:=GC hk;have gk:=cZ (f:=yV) hk;have dm:(eF ys).drop k=eF (ys.drop k):=Sv.symm;have YK:(eF ys).drop (k+1)=eF (ys.drop (k+1)):=Sv.symm;have RU:(eF ys).take (k+1)=eF (ys.take (k+1)):=R7.symm;rw[ed] at en hw dm;generalize ys[k]=y at*;generalize ys.drop (k+1)=r at*;have M:(aH hs).length+(y.1.1.2.length+(aH ((eM r).map (·.1))).length)<=W:=ID (PI (PR _ PQ.symm)) hw;refine cm (h5.loc (up I)) (l6 hk) gk ⟨_,_,rfl,ag (b:=1) (Ik h5 (up (kp y B)) (re.a (y.1.1,y.2) (P1.mpr (aK y B rfl))).1.2 (PJ (ID (ID (PM _ _) (Qp _ _)) M) hW:y.1.1.2.length<64) λlv Y' Zv el kl h6=>?_)⟩;have c2:∀{Z:Y8},(∀p∈X0,p∈Z)->Kp (Y'++Z) lv:=λhz=>kl.elim (PZ _) λe=>PK _ (hz _ (e▸kp y B));have mm:∀{p},p∈X0->p∈Y'++(o,O.list (os.map yV))::(Y++X0):=λh=>PK _ (up h);have lm:(eF ys).length<=5000:=ID (PI (PL _)) ln;have km:k<(eF ys).length:=P5 hk (PI (PL _).symm);have ZK:(os.map yV).length<=lim:=ID (PI (PL _)) (ID lo (ID (P2 hk) hl));have Za:∀{os2:Ys}{hv2:eY×Addr}{w:List eY}{Y6:Y8}{σ:Hp},(2∉eF (ys.take (k+1))->w=[])->hv2.1=be w->(∀v∈w,v.1<8192/\∀s∈v.2,PyData.strOk s=true)->(aH w).length+(aH ((eM r).map (·.1))).length<=W->eM os2++fY (decide (2∈eF (ys.take (k+1)))) w (eM r)=gH (eM ys)->os2.length<=k+1->(∀y∈os2,GF (Y6++Y) ys y)->Kp (Y6++(Y++X0)) hv2->H c g b t ((o,.list (os2.map yV))::(Y6++(Y++X0))) σ->
    R [some v0,some (.ref a),w2,w3,some (.ref nd),some (.ref rs),some (.ref wk),some (.ref o),some (vV hv2),some (nV k),some (vV y.1),some (nV y.2),some (vV lv),none,none,none] σ:=λ{os2 hv2 w Y6 σ} a1 a2 a3 a4 A a6 a7 a8 a9=>N _ _ λZ z=>z os2 hv2 w _ _ _ _ (Y6++Y) a1 a2 a3 a4 A rfl a6 a7 (by rw[Qo];exact a8) (by rw[Qo];exact a9);have U:=Rk.late (x:=(y.1.1,y.2)) (L:=bv y.1.1.2) (W:=y.1.1.2.length) ⟨PI (PR bv (Qm _)),PI (PR List.length (Qm _)),λv u=>(PG.mp u)▸((re.a (y.1.1,y.2) (P1.mpr (aK y B rfl))).1)⟩;have i2:lv.1.2.length<=y.1.1.2.length:=by exact rR el (ID (PI (PR List.length (Qm _).symm)) U.w)
  have VL:decide (2∈eF (ys.take (k+1)))=(decide (2∈eF (ys.take k))||decide (y.2=2)):=by rw[et,QJ.mpr (P3.trans (Tv (PG.trans eq_comm)))];exact Bool.decide_or ..
  refine kX (.lenL (h6.loc (mm mr)) (cO rfl (ID (ID (Tz ..) (PI QT)) (ID lm dD))) (cw .gt (Im km lm (h6.loc (mm mr)) (h6.loc (mm mw)) rfl rfl rfl (cD (λz=>?_) λz=>?_))))
  ·rw[RU,dm] at z;have Xq:=vB z;have z1:=Xq.1;have z2:=Xq.2;have z2:ak (eF (y::r))≠0:=Rp ((QD _).mp z2);have g0:fY (decide (2∈eF (ys.take k))) hs (eM (y::r))=fY true hs (eM (y::r)):=by
    by_cases p:2∈eF (ys.take k)
    ·exact rR (Qg p) rfl
    rw[Qb p,on p];rw[VL,Qb p] at z1;exact gA (P9 z1)
   rw[g0] at en;refineλa4 Q2=>?_;have WL:∀s∈u.1.2,PyData.strOk s=true:=by exact rR G (((Rk.join (L:=_) ⟨PD _,PD _,hb⟩).a _ (.head _)).2)
   have S2:lv.1.1<8192/\∀s∈lv.1.2,PyData.strOk s=true:=by rw[el];exact U.a _ (.head _)
   refine uC (xs:=[u,lv]) (h6.new (o:=.list ([u,lv].map vV)) Q2) (.head _) (eg (.tail _ (PK _ (.tail _ kv))) (eg (.tail _ (c2 λp hp=>up hp)) bP)) (eg WL (eg S2.2 bP)) ?_ λA tg h8=>?_
   ·show(u.1.2++(lv.1.2++[])).length<64;rw[Qm,PQ,G];exact PJ (ID (Qu (ID (PI (PR List.length (Qm _).symm)) (Rk.join (L:=_) ⟨PD _,PD _,hb⟩).w:(be hs).2.length<=(aH hs).length) i2) (ID (P8 (PM _ _) _) M)) hW
   have YL:be (bV [u,lv])=be (hs++[cH (y.1.1,y.2)]):=by
    refine rR (show bV [u,lv]=[u.1,lv.1] from rfl) (rR G (rR el ?_));exact A6
   refine am (Gl (ms:=eF ys) (k:=k) (by rw[dm];exact z2)) λj ej ek=>?_;rw[YK] at ek;have VU:∀v∈hs++[cH (y.1.1,y.2)],v.1<8192/\∀s∈v.2,PyData.strOk s=true:=bh hb (U.a _ (.head _));have WU:(aH (hs++[cH (y.1.1,y.2)])).length+(aH ((eM r).map (·.1))).length<=W:=by rw[aH,Qx,PQ,QH];refine ID (P8 (PX ?_ _) _) M;exact U.w
   have no:2∉eF (ys.take (k+1))->hs++[cH (y.1.1,y.2)]=[]:=λn=>VC (P9 z1) n;refine kr (BY (h8.loc (.tail _ (.tail _ (mm mw)))) ej (ag (az (λe=>?_) λe=>?_)))
   ·have h9:=H.mid (Y:=(A,O.list ((be (bV [u,lv])).2.map V.str))::(a4,O.list ([u,lv].map vV))::Y') (o':=.list ((os++[((be (bV [u,lv]),A),2)]).map yV)) h8;refine bk (.append (h8.loc (.tail _ (.tail _ (PK _ (.head _)))))) (kJ (.append (h8.loc (.tail _ (.tail _ (PK _ (.head _))))) ZK (wExpr rfl ?_)));have e9:=(PU (f:=yV) (l₁:=os) (l₂:=[((be (bV [u,lv]),A),2)]));refine Za (os2:=os++[((be (bV [u,lv]),A),2)]) (hv2:=(be (bV [u,lv]),A)) (Y6:=(A,O.list ((be (bV [u,lv])).2.map V.str))::(a4,O.list ([u,lv].map vV))::Y') no YL VU WU ?_ ?_ (bh (P:=GF (((A,O.list ((be (bV [u,lv])).2.map V.str))::(a4,O.list ([u,lv].map vV))::Y')++Y) ys) (λy B=>(ko y B).app) (.inl (.head _))) (.head _) (e9▸h9)
    ·rw[z1,<-en,show eM (os++[((be (bV [u,lv]),A),2)])=eM os++[(be (bV [u,lv]),2)] from PU,Qo,YL];refine PR (eM os++ ·) (gB (x:=(y.1.1,y.2)) ?_ ?_).symm
     ·show ak ((eM (y::r)).map (·.2))≠0;exact rR qX z2
     rw[qX];exact ek.mp e
    exact rR PQ (Qn lo)
   have h9:=H.mid (Y:=(A,O.list ((be (bV [u,lv])).2.map V.str))::(a4,O.list ([u,lv].map vV))::Y') (o':=.list (os.map yV)) h8;rw[xw (h8.loc (.tail _ (.tail _ (PK _ (.head _)))))] at h9;refine Za (os2:=os) (hv2:=(be (bV [u,lv]),A)) (Y6:=(A,O.list ((be (bV [u,lv])).2.map V.str))::(a4,O.list ([u,lv].map vV))::Y') no YL VU WU ?_ (QI lo) (λy B=>(ko y B).app) (.head _) h9;rw[z1,<-en];refine PR (eM os++ ·) (gC (x:=(y.1.1,y.2)) ?_).symm;exact rR qX (λz=>e (ek.mpr z))
  rw[RU,dm,VL] at z;have nz:y.2≠2/\fY (decide (2∈eF (ys.take k))) hs (eM (y::r))=[if y.2=1/\0∈eF r then(cH (y.1.1,y.2),0) else(y.1.1,y.2)]++fY (decide (2∈eF (ys.take k))) hs (eM r)/\(2∉eF (ys.take k)->hs=[]):=by
   by_cases p:2∈eF (ys.take k)
   ·rw[Qg p,Bool.true_or,TK] at z;rw[Qg p];have gd:=gD (hs:=hs) (x:=(y.1.1,y.2)) (r:=eM r) (by show ak ((eM (y::r)).map (·.2))=0;exact rR qX (P9 ((SI _).mp z)));refine⟨by rw[(gd.2:y.2=0)];decide,gd.1.trans ?_,on⟩;rw[PV λh=>VC ((gd.2:y.2=0).symm.trans h.1) dD]
   have y2:y.2≠2:=λe=>by
    rw[Qg e,UG,TK] at z;exact VC (fc.mp (P9 ((SI _).mp z)) y.2 (.head _)) (by rw[e];decide)
   rw[Qb p,on p];refine⟨y2,(gE (x:=(y.1.1,y.2)) (r:=eM r) y2).trans ?_,λø=>rfl⟩;rw[qX]
  have XU:decide (2∈eF (ys.take (k+1)))=decide (2∈eF (ys.take k)):=by rw[VL,Qb nz.1,Rz]
  have no:2∉eF (ys.take (k+1))->hs=[]:=λn=>on λm=>n (P9 (XU.trans (Qg m)));have app:∀{v:eY×Addr}{m:Nat},(v.1,m)=(if y.2=1/\0∈eF r then(cH (y.1.1,y.2),0) else(y.1.1,y.2))->(Kp (Y'++Y) v\/∃z∈ys,z.1=v)->R [some v0,some (.ref a),w2,w3,some (.ref nd),some (.ref rs),some (.ref wk),some (.ref o),some (vV u),some (nV k),some (vV y.1),some (nV y.2),some (vV lv),none,none,none] (upd Zv o (.list (os.map yV++[yV (v,m)]))):=λ{v m} e V2=>by
   rw[show os.map yV++[yV (v,m)]=(os++[(v,m)]).map yV from(PU (f:=yV) (l₁:=os) (l₂:=[(v,m)])).symm];refine Za (os2:=os++[(v,m)]) (hv2:=u) (Y6:=Y') no G hb (ID (P8 (Qp _ _) _) M) ?_ ?_ (bh (P:=GF (Y'++Y) ys) (λy B=>(ko y B).app) V2) (PK _ kv) (H.mid (Y:=Y') (o':=.list ((os++[(v,m)]).map yV)) h6)
   ·rw[XU,<-en,nz.2.1,show eM (os++[(v,m)])=eM os++[(v.1,m)] from PU,Qo,e]
   rw[PQ];exact Qn lo
  have eo:=h6.loc (PK Y' (.head _));refine ag (b:=1) (EE (k:=k) lm (h6.loc (mm mn)) rfl rfl (cD (λz=>?_) λz=>?_))
  ·rw[YK] at z;have Yq:=vB z;have z1:=Yq.1;have z2:=Yq.2;refine bk (.append eo) (kJ (.append eo ZK (wExpr rfl (app (v:=lv) (m:=0) ?_ ?_))))
   ·rw[PW ⟨P9 z1,P9 z2⟩,el]
   exact kl.imp (PZ _) λe=>(aK y B e.symm)
  rw[YK] at z;refine bk (.append eo) (kJ (.append eo ZK (wExpr rfl (app (v:=y.1) (m:=y.2) ?_ (.inr ⟨y,B,rfl⟩)))));rw[PV λh=>by rw[Qg h.1,Qg h.2] at z;exact VC z.symm PC]
 ·rw[er];rw[List.drop_eq_nil_of_le (PD _),SC] at en;have en:eM os=gH (eM ys):=(Qm _).symm.trans ((PR (eM os++ ·) (by cases decide (2∈eF ys)<;>rfl:([]:nZ)=fY (decide (2∈eF ys)) hs (eM []))).trans en);exact q' _ os Y _ en ko h5
end
end
mutual
noncomputable def aF:Tm->List Tm|.cons a r=>a::aF r|_=>[]
noncomputable def jm:Tm->Bool|.nil=>true|.cons _ r=>jm r|_=>false
noncomputable def IP:Tm->Bool|.el _ _=>true|_=>false
noncomputable def dP:Tm->Bool|.nil=>false|.cons _ _=>false|.el _ _=>false|_=>true
noncomputable def GW:Tm->Bool|.uni _=>true|_=>false
noncomputable def bS(X:Y8):Tm->Z7->Prop
 |.nil=>λvs=>vs=[]
 |.cons a r=>λvs=>∃x xs,vs=x::xs/\bS X a [x]/\bS X r xs
 |.leaf i=>λvs=>vs=[.tup [.int 0,nV i]]
 |.uni l=>λvs=>∃a us,vs=[.tup [.int 1,.ref a]]/\(a,O.list us)∈X/\bS X l us
 |.int l=>λvs=>∃a us,vs=[.tup [.int 2,.ref a]]/\(a,O.list us)∈X/\bS X l us
 |.arr t=>λvs=>∃v,vs=[.tup [.int 3,v]]/\bS X t [v]
 |.tup l=>λvs=>∃a us,vs=[.tup [.int 4,.ref a]]/\(a,O.list us)∈X/\bS X l us
 |.ro t=>λvs=>∃v,vs=[.tup [.int 5,v]]/\bS X t [v]
 |.el s t=>λvs=>∃v,vs=[.tup [nV s,v]]/\bS X t [v]
theorem aV(h:∀p∈X,p∈Y):∀{vs:Z7},bS X T vs->bS Y T vs:=by
 induction T with
 |nil=>exactλe=>e
 |leaf i=>exactλe=>e
 |cons a r iha ihr=>exactλo=>by exact dg o λx xs e p q=>⟨x,xs,e,iha p,ihr q⟩
 |uni l k=>exactλu=>by exact dg u λx xs e p q=>⟨x,xs,e,h _ p,k q⟩
 |int l k=>exactλw=>by exact dg w λx xs e p q=>⟨x,xs,e,h _ p,k q⟩
 |tup l k=>exactλj=>by exact dg j λx xs e p q=>⟨x,xs,e,h _ p,k q⟩
 |arr t k=>exactλm=>by exact am m λv e q=>⟨v,e,k q⟩
 |ro t k=>exactλy=>by refine PO y λv C=>?_;have e:=C.1;have q:=C.2;exact⟨v,e,k q⟩
 |el s t k=>exactλg=>by exact am g λv e q=>⟨v,e,k q⟩
noncomputable def g4:Tm->Prop
 |.cons a r=>g4 a/\g4 r|.leaf i=>i<15|.uni l=>jm l=true/\(aF l).length<=100/\pb l<64/\g4 l/\∀x∈aF l,dP x=true|.int l=>jm l=true/\(aF l).length<=100/\pb l<64/\g4 l/\bu l=true/\l≠.nil/\∀x∈aF l,dP x=true
 |.arr t=>g4 t/\dP t=true/\(lb t).1<=90000/\pb t<64|.tup l=>jm l=true/\(aF l).length<=100/\(∀x∈aF l,IP x=true)/\g4 l/\en l<64/\eb l<64/\(lb l).2<=90000
 |.ro t=>g4 t/\dP t=true/\(gw t=true\/GW t=true/\bu t=true)/\(lb t).2<=90000/\en t<64/\eb t<64/\pb t<64|.el s t=>s<=2/\g4 t/\dP t=true/\(s=2->gw t=true)|.nil=>True
theorem BA(z:IP T=true):∃s T1,T=.el s T1:=by cases T<;>first|exact VC z PC|exact vy _ _ rfl
theorem Km(z:GW T=true):∃L,T=.uni L:=by cases T<;>first|exact VC z PC|exact⟨_,rfl⟩
theorem fG:∀{T:Tm},g4 T->Ex T
 |.nil,_=>trivial
 |.leaf _,_=>trivial
 |.cons _ _,h=>⟨fG h.1,fG h.2⟩
 |.uni l,h=>fG (T:=l) h.2.2.2.1
 |.int l,h=>fG (T:=l) h.2.2.2.1
 |.arr t,h=>fG (T:=t) h.1
 |.tup l,h=>fG (T:=l) h.2.2.2.1
 |.ro t,h=>fG (T:=t) h.1
 |.el _ t,h=>⟨h.1,fG h.2.1⟩
noncomputable def fd:Tm->Nat
 |.nil=>0|.cons a r=>max (fd a) (fd r)|.leaf _=>2|.uni l=>fd l+4|.int l=>fd l+4|.arr t=>fd t+4|.tup l=>fd l+4|.ro t=>fd t+4|.el _ t=>fd t
end
section
variable{c:cR}{g:bM}{b t d:Nat}{X:Y8}{σ:Hp}{Q:KV}{l:Addr}{ns:Z9}{T:Tm}
section
variable{a:Addr}{P:Tm->Prop}
theorem sD(h:∀a r,P (.cons a r)->P a/\P r):∀{L:Tm},x∈aF L->P L->P x
 |.cons a r,i,p=>(P0.mp i).elim (λe=>e▸(h a r p).1) λi=>sD h i (h a r p).2
 |.nil,i,_=>VC i PH
 |.leaf _,i,_=>VC i PH
 |.uni _,i,_=>VC i PH
 |.int _,i,_=>VC i PH
 |.arr _,i,_=>VC i PH
 |.ro _,i,_=>VC i PH
 |.tup _,i,_=>VC i PH
 |.el _ _,i,_=>VC i PH
theorem nJ:∀{vs:Z7},jm L=true->bS X L vs->∃xs:List (Tm×V),vs=xs.map (·.2)/\aF L=xs.map (·.1)/\(∀p∈xs,p.1∈aF L/\bS X p.1 [p.2])/\(val L).k=xs.map (λp=>(val p.1).v)/\(val L).e=xs.flatMap λp=>(val p.1).e:=by
 induction L with
 |nil=>exactλ{vs} m h=>(M6 ([]) h rfl (bP) rfl rfl)
 |cons a r _ ih=>intro vs o h;exact dg (h) λx xs e q w=>OE (ih o w) λys k f I i j=>(M6 ((a,x)::ys) (e.trans (PR (x:: ·) k)) (PR (a:: ·) f) (λp v=>(P0.mp v).elim (λe=>rR e ⟨.head _,q⟩) λv=>⟨.tail _ (I p v).1,(I p v).2⟩) (PR ((val a).v:: ·) i) (PR ((val a).e++ ·) j))
 |_=>exactλo=>VC o PC
theorem wA:∀x∈aF L,fd x<=fd L:=by
 induction L with
 |cons a r _ ih=>exactλx h=>(P0.mp h).elim (λe=>sB e (QY ..)) λh=>ID (ih x h) (Rd ..)
 |_=>exact bP
def jj(c:cR)(l:Addr)(ns:Z9)(T:Tm):=∀⦃D g b t X σ Q v⦄,fd T<=D->g4 T->H c g b t X σ->bS X T [v]->i4 c g b t X (val T).v Q->ad (aa l ns) D 1236 [v] σ Q
def kj(c:cR)(l:Addr)(ns:Z9)(T:Tm):=∀⦃D g b t X σ Q v⦄,fd T<=D+2->g4 T->H c g b t X σ->bS X T [v]->G8 c g b t X (val T).e Q->ad (aa l ns) D 1231 [v] σ Q
theorem de{k D m:Nat}(h:k+(m+1)<=D):∃e,D=e+1/\k+m<=e:=by
 induction D with
 |zero=>exact VC h (Sj _)
 |succ e=>exact(aK e rfl (Rg h))
end
section
variable{a:Addr}
theorem LV:jj c l ns (.leaf i):=λ{D g b t X σ Q v} e x h is q=>by
 refine PO (de (k:=0) (m:=1) e) λD o=>?_;obtain⟨rfl,_⟩:=o;refine rR is ?_;have m:∀i,i<15->([(.int 1),(.int 2),(.int 4),(.int 8),(.int 16),(.int 32),(.int 128),(.int 256),(.int 896),(.int 112),(.int 12),(.int 1025),(.int 2048),(.int 8191),(.int 0)]:Z7)[i]?=some (nV (wd i)):=by decide+kernel
 exact ah (F:=dK) rfl rfl (bx rfl (ag (a:=0) (b:=0) (aq (bx rfl (Nx (Q0 x dD) (m i x) λa w=>q a _ (h.new w))))))
theorem N9{ρ:Env}(h:ρ.length=4):∃a b c d,ρ=[a,b,c,d]:=by
 cases ρ with
 |nil=>exact nomatch h
 |cons a ρ=>cases ρ with
  |nil=>exact nomatch h
  |cons b ρ=>cases ρ with
   |nil=>exact nomatch h
   |cons c ρ=>cases ρ with
    |nil=>exact nomatch h
    |cons d ρ=>exact OB a b c d (PR (λr=>[a,b,c,d]++r) (RW.mp (Sl (Sl (Sl (Sl h))))))
theorem LF{us:Z7}{D:Nat}(A:∀x∈aF L,jj c l ns x)(n:fd L<=D)(ok:g4 L)(il:jm L=true)(ll:(aF L).length<=100)(h:H c g b t X σ)(mk:(K,O.list us)∈X)(is:bS X L us)(B:ρ.length=4)(q:∀ps Y o,bV ps=(val L).k->(∀p∈ps,Kp (Y++X) p)->H c g b t (Y++X) o->alloc (.list (ps.map vV)) o Q):iA (cP (aa l ns) (ad (aa l ns) D) kN) (.one 3) (Bv (aa l ns) (ad (aa l ns) D) .nil) ρ Q (.ref K) σ:=by
 refine PO (nJ il is) λxs u=>Iw (u) λC I J N _=>?_;subst C
 refine vo (N9 B) λr0 r1 r2 r3 y=>?_;subst y
 refine oM (f:=λp:Tm×V=>p.2) (.list (h.loc mk)) (ID (PI ((PL _).symm.trans (PR List.length I.symm))) (ID ll dD)) (λs acc σ=>∀Z:Prop,(∀ps Y,acc=ps.map vV->bV ps=s.map (λp=>(val p.1).v)->(∀p∈ps,Kp (Y++X) p)->H c g b t (Y++X) σ->Z)->Z) (λZ z=>z [] [] rfl rfl (bP) h) (λs x r e R acc m σ i=>i _ λps Y U ev j G=>?_) λacc σ i=>i _ λps Y U ev j G=>?_
 ·have M:=J x (rR e (PK _ (.head _)));refine⟨.list (G.loc ((λp v=>PK _ v:∀p∈X,p∈Y++X) _ mk)),A x.1 M.1 (ID (wA x.1 M.1) n) (sD (P:=g4) (λø ø h=>h) M.1 ok) G (aV (λp v=>PK _ v:∀p∈X,p∈Y++X) M.2) λw o k=>m _ _ λZ z=>z (ps++[((val x.1).v,w)]) (_::Y) ?_ ?_ (bh (P:=Kp _) (λp v=>.tail _ (j p v)) (.head _)) k⟩
  ·exact rR U ((PU (f:=vV) (l₁:=ps) (l₂:=[((val x.1).v,w)])).symm)
  exact rR PU ((PU (f:=λp:eY×Addr=>p.1) (l₁:=ps) (l₂:=[((val x.1).v,w)])).trans (PR (· ++[(val x.1).v]) ev))
 ·exact⟨.list (G.loc (PK _ mk)),U▸q ps Y σ (ev.trans N.symm) j G⟩
theorem Og{L:Tm}(r:∀x∈aF L,jj c l ns x):jj c l ns (.uni L):=λ{D g b t X σ Q v} f A h is q=>by refine am (de f) λD U I=>rR U ?_;obtain⟨K,us,e,mk,is⟩:=is;refine rR e (Iw (A) λi k w y _=>?_);obtain⟨s,rfl,_⟩:=de I;refine ah (F:=dK) rfl rfl (bx rfl (ag (a:=1) (b:=0) (af (bx rfl (ag (a:=1) (b:=1) (aq (bx rfl (LF r (ID (PM _ 3) I) y i k h mk is rfl λps Y J ev j G M z=>?_))))))));have B:=(dF L (fG y)).2.2;refine uC (d:=s) (G.new (o:=.list (ps.map vV)) z) (.head _) (λp w=>.tail _ (j p w)) (λp w=>(B.a p.1 (sB ev (P1.mpr (aK p w rfl)))).2) (PJ (ev▸B.w) w) λu C N=>?_;rw[ev] at N⊢;exact q u C (H.keep (Y:=_::Y) N)
theorem vInt(G:∀x∈aF L,jj c l ns x):jj c l ns (.int L):=λ{D g b t X σ Q v} o ok h is q=>by
 refine am (de o) λD U I=>rR U ?_;obtain⟨K,us,e,mk,is⟩:=is;refine rR e (Iw (ok) λJ ll w y _=>?_);obtain⟨xs,rfl,e2,hx,N,_⟩:=nJ J is;have N:(val (.int L)).v=(xs.foldl (λm p=>m&&&(val p.1).v.1) 8191,[]):=by show((val L).k.foldl _ _,_)=_;exact rR N (rR List.foldl_map rfl)
 simp only[N] at q;refine ah (F:=dK) rfl rfl (bx rfl (ag (a:=2) (b:=0) (af (bx rfl (ag (a:=2) (b:=1) (af (bx rfl (ag (a:=2) (b:=2) (aq (bx rfl ?_))))))))));refine gO (f:=λp:Tm×V=>p.2) (.list (h.loc mk)) (λs ρ σ=>∀Z:Prop,(∀j Y,ρ=[some (.tup [.int 2,.ref K]),some (nV (s.foldl (λm p=>m&&&(val p.1).v.1) 8191)),j,none]->H c g b t (Y++X) σ->Z)->Z) (λZ z=>z none [] rfl h) (λs x r e R A ρ σ i=>i _ λj Y n C=>?_) λρ σ i=>i _ λj Y n C=>?_
 ·refine(n)▸?_;have M:=hx x (rR e (PK _ (.head _)));refine⟨.list (C.loc ((λp w=>PK _ w:∀p∈X,p∈Y++X) _ mk)),G x.1 M.1 (ID (wA x.1 M.1) (ID (PM _ 3) I)) (sD (P:=g4) (λø ø h=>h) M.1 y) C (aV (λp w=>PK _ w:∀p∈X,p∈Y++X) M.2) λu ma k=>bx rfl (B4 (.and ?_))⟩;refine A _ _ λZ z=>z (some x.2) (_::Y) ?_ k;simp only[Tw];rfl
 exact rR n ⟨.list (C.loc (PK _ mk)),λu B=>q u _ (C.new B).keep⟩
theorem CO{D:Nat}{k:Nat}(G:v=.tup [nV k,w])(i:k≠0/\k≠1/\k≠2)(p:k=5->∃m u,w=.tup [nV m,u]/\m≠1){ev:nZ}(r:Re L W ev)(s:L<=100000)(h:H c g b t X σ)(A:∀{Q},G8 c g b t X ev Q->ad (aa l ns) (D+1) 1231 [v] σ Q)(q:i4 c g b t X (0,[cK ev (decide (k=5))]) Q):ad (aa l ns) (D+2) 1236 [v] σ Q:=by
 subst G
 refine ah (F:=dK) rfl rfl (bx rfl (ag (b:=0) (az (λz=>VC z i.1) λn=>bx rfl (ag (b:=1) (az (λz=>VC z i.2.1) λn=>bx rfl (ag (b:=2) (az (λz=>VC z i.2.2) λn=>bx rfl (ag (b:=5) (db (y:=false) (λz k=>?_) ?_)))))))))
 ·refine eA (p (P9 z)) λm u f M=>?_;subst f;refine bx rfl (bx rfl (ag (b:=1) ?_));exact rR (Qb M) k
 ·rw[Sz];refine af (A λa os Y J e I C=>bx rfl (ag (b:=5) (CD (ro:=.bool (decide (k=5))) C (.head _) (λy B=>.tail _ (PZ _ (I y B))) (λy B=>?_) (λσ=>.bool) ?_ λN o x j=>?_)))
  ·have z:=r.a (y.1.1,y.2) (sB e (P1.mpr (aK y B rfl)));exact⟨z.1.1,z.2⟩
  ·exact rR e (ID r.l s)
  rw[e];exact q x _ (H.keep (Y:=_::Y) (o.new j))
theorem NE(p:jj c l ns T):kj c l ns (.arr T):=λ{D g b t X σ Q v} f x h is q=>by refine am (de (m:=1) (SW (b:=2) f)) λD J I=>rR J ?_;obtain⟨w,e,is⟩:=is;refine rR e (ah (F:=gT) rfl rfl (bx rfl (ag (a:=3) (b:=5) (af (bx rfl (ag (a:=3) (b:=3) (aq (bx rfl (p (ID (PM _ 1) I) x.1 h is λa r C o i=>?_)))))))));exact q o [(((val T).v,a),2)] [_] _ rfl (λy B=>(PG.mp B)▸(.head _)) (C.new i)
theorem OR(r:kj c l ns T):kj c l ns (.ro T):=λ{D g b t X σ Q v} i x h is q=>by refine am (de (m:=1) (SW (b:=2) i)) λD f I=>rR f ?_;obtain⟨w,e,is⟩:=is;exact rR e (ah (F:=gT) rfl rfl (bx rfl (ag (a:=5) (b:=5) (aq (bx rfl (r (ID (PM _ 1) (ID I (PM _ 2))) x.1 h is q))))))
theorem NI(hv:∀x∈aF L,∀s T,x=.el s T->jj c l ns T/\(s=2->kj c l ns T)):kj c l ns (.tup L):=λ{D g b t X σ Q v} hD ok h is q=>by
 refine am (de (m:=1) (SW (b:=2) hD)) λD ZL hE=>rR ZL ?_;obtain⟨K,us,e,mk,is⟩:=is;refine rR e (Ji (ok) λil ll el lf _ Zp G=>?_);obtain⟨xs,rfl,e2,hx,_,ee⟩:=nJ il is;have rm:=(dF L (fG lf)).2.1;refine am (de hE) λD' k _=>?_;subst k;refine ah (F:=gT) rfl rfl (bx rfl (ag (a:=4) (b:=5) (af (bx rfl (ag (a:=4) (b:=3) (af λo ho=>bx rfl ?_))))));refine gO (f:=λp:Tm×V=>p.2) (.list ((h.new (o:=.list []) ho).loc (.tail _ mk))) (λs ρ σ=>∀Z:Prop,(∀w2 w3 ys Y,eM ys=s.flatMap (λp=>(val p.1).e)->ρ=[some (.tup [.int 4,.ref K]),some (.ref o),w2,w3,none,none,none,none,none,none,none,none,none,none,none,none]->(∀y∈ys,Kp Y y.1)->H c g b t ((o,.list (ys.map yV))::(Y++X)) σ->Z)->Z) (λZ z=>z none none [] [] rfl rfl (bP) (h.new (o:=.list []) ho)) (λs x r e R hR ρ σ i=>i _ λw2 w3 ys Y ev er kp j=>?_) λρ σ i=>i _ λw2 w3 ys Y ev er kp j=>?_
 ·refine rR er ?_;have M:=hx x (rR e (PK _ (.head _)));obtain⟨T,v⟩:=x;refine i5 (BA (el _ M.1)) λU T1 e6=>?_;subst e6;refine am M.2 λu eu J=>?_;obtain rfl:=(QB eu).1;obtain⟨v1,v2⟩:=hv _ M.1 U T1 rfl;have Zu:=sD (P:=g4) (λø ø h=>h) M.1 lf;have up:∀p∈X,p∈(o,O.list (ys.map yV))::(Y++X):=λp hp=>.tail _ (PK _ hp);have I:ys.length+(val (.el U T1)).e.length<=lim:=by
   have z:(eM ys++(val (.el U T1)).e).length<=(val L).e.length:=by simp only[ee,e,Qx,QE,ev,PQ,PQ,PQ,<-QH];exact PM _ _
   have z2:=rm.l;simp only[mP] at z2;simp only[PQ,PL] at z;exact ID z (ID (lq (aO G z2):(val L).e.length<=90000) dD)
  have n:∀{bs:Ys}{Y' o' w},eM bs=(val (.el U T1)).e->(∀y∈bs,Kp Y' y.1)->H c g b t ((o',.list (bs.map yV))::(Y'++(o,O.list (ys.map yV))::(Y++X))) w->
    n7 (EB o) (wV [some (.tup [.int 4,.ref K]),some (.ref o),some (nV U),some u,none,none,none,none,none,none,none,none,none,none,none,none] (vE (fS (aa l ns) (ad (aa l ns) (D'+1)) .nil) (tW R (vE (fS (aa l ns) (ad (aa l ns) (D'+1)) GX) (fJ Q))))) [.ref o'] w:=λ{bs Y' o' w} eb kb N=>by
   have h4:=H.mid (Y:=(o',O.list (bs.map yV))::Y') (o':=.list ((ys++bs).map yV)) N
   refine kJ (.extend (N.loc (.tail _ (PK _ (.head _)))) (by have z:=N.hs;simp only[Uw,Qo] at z;exact Holds.ne2 (A:=[]) (B:=Y') z) (N.loc (.head _)) ?_ (wExpr rfl (hR _ _ λZ z=>z _ _ (ys++bs) ((o',O.list (bs.map yV))::(Y'++Y)) ?_ rfl ?_ ?_)))
   ·simp only[PL,PL,show bs.length=(eM bs).length from(PL _).symm,eb];exact I
   ·simp only[show eM (ys++bs)=eM ys++eM bs from PU,ev,eb,Qx,QE,List.flatMap_nil,Qm]
   ·exactλy C=>.tail _ ((P3.mp C).elim (λm=>PK _ (kp y m)) λm=>PZ _ (kb y m))
   ·simp only[PU] at h4;simp only[PU,Uw,Qo];exact h4
  refine⟨.list (j.loc (up _ mk)),_,_,rfl,bk (.extend (j.loc (.head _))) (ag (b:=2) (az (λz=>?_) λz=>?_))⟩
  ·exact v2 z (ID (wA (.el U T1) M.1:fd T1<=fd L) (ID (PM _ 1) (ID hE (PM _ 2)))) Zu.2.1 j (aV up J) λa bs Y' w eb kb N=>n (eb.trans (PW z).symm) kb N
  exact v1 (ID (wA (.el U T1) M.1:fd T1<=fd L) (ID (PM _ 1) hE)) Zu.2.1 j (aV up J) λa w N o' Xx=>n (bs:=[(((val T1).v,a),U)]) (Y':=[_]) (PV z).symm (λy C=>(Qe (PG.mp C))▸(.head _)) (N.new Xx)
 refine(er)▸?_;simp only[<-ee] at ev;exact⟨.list (j.loc (.tail _ (PK _ mk))),Kl (d:=D') j (.head _) (λy C=>.tail _ (PZ _ (kp y C))) (W:=eb L) (by simp only[ev];exact rm.mono (ID G dD) (PD _)) Zp λa os Y' w e' W2 N=>q a os (Y'++(o,O.list (ys.map yV))::Y) w (e'.trans (PR gH ev)) (λy C=>(W2 y C).elim (PZ _) λz1=>by obtain⟨z,hz,e⟩:=z1;exact PK _ (.tail _ (sB e (kp z hz)))) (by simp only[Qo];exact N)⟩
end
theorem DO(h:gw T=true)(is:bS X T [v]):∃m u,v=.tup [nV m,u]/\m≠1:=by cases T<;>first|exact VC h PC|exact am is λu e _=>rS 3 u (QB e).1 dD|exact eA is λa _ e _=>rS 4 (.ref a) (QB e).1 dD|exact am is λu e _=>rS 5 u (QB e).1 dD
theorem IA(h:g4 T->jj c l ns T):jj c l ns T:=λa a a a a a a a e x=>h x e x
theorem Mc(h:g4 T->kj c l ns T):kj c l ns T:=λa a a a a a a a e x=>h x e x
theorem N8(r:kj c l ns (.arr T)):jj c l ns (.arr T):=λ{D g b t X σ Q v} f x h is q=>by exact am (de f) λD a I=>rR a (am (de I) λD m U=>rR m (am (is) λw e n=>rR e (CO (k:=3) rfl dD (λe=>VC e dD) (dF (.arr T) (fG (T:=.arr T) x)).2.1 (ID (PX x.2.2.1 20) dD) h (λq=>r (QI (PX U 2)) x h ⟨w,rfl,n⟩ q) q)))
theorem Nm(r:kj c l ns (.tup T)):jj c l ns (.tup T):=λ{D g b t X σ Q v} i x h is q=>by exact am (de i) λD f I=>rR f (am (de I) λD n U=>rR n (dg (is) λa us e m o=>rR e (CO (k:=4) rfl dD (λe=>VC e dD) (dF (.tup T) (fG (T:=.tup T) x)).2.1 (ID x.2.2.2.2.2.2 dD) h (λq=>r (QI (PX U 2)) x h ⟨a,us,rfl,m,o⟩ q) q)))
theorem OS(p:jj c l ns T)(r:gw T=true->kj c l ns (.ro T)):jj c l ns (.ro T):=λ{D g b t X σ Q v} j x h is q=>by
 refine PO (de j) λD u=>?_;obtain⟨rfl,hE⟩:=u;refine PO (de hE) λD f=>?_;obtain⟨rfl,hF⟩:=f;refine am (is) λw U n=>rR U ?_;have q:i4 c g b t X (if gw T then(0,[cK (val T).e true]) else(val T).v) Q:=q;by_cases Y:gw T=true
 ·replace q:=(PW Y)▸q;exact CO (k:=5) rfl dD (λm=>DO Y n) (dF T (fG x.1)).2.1 (ID x.2.2.2.1 dD) h (λq=>r Y (QI (PX hF 2)) x h ⟨w,rfl,n⟩ q) q
 replace q:=(PV Y)▸q;refine jn (Km (x.2.2.1.resolve_left Y).1) λL i=>?_;subst i;refine eA (n) λa us e _=>?_;obtain rfl:=(QB e).1;exact ah (F:=dK) rfl rfl (bx rfl (ag (a:=5) (b:=0) (af (bx rfl (ag (a:=5) (b:=1) (af (bx rfl (ag (a:=5) (b:=2) (af (bx rfl (ag (a:=5) (b:=5) (db (y:=true) (λm k=>bx rfl (bx rfl (ag (a:=1) (b:=1) k))) (aq (bx rfl (p (ID (PM _ 3) hE) x.1 h n q)))))))))))))))
structure NT(c:cR)(l:Addr)(ns:Z9)(T:Tm):Prop where
 v:dP T=true->jj c l ns T
 e:gw T=true->kj c l ns T
 k:∀s t,T=.el s t->(dP t=true->jj c l ns t)/\(gw t=true->kj c l ns t)
 l:∀x∈aF T,(dP x=true->jj c l ns x)/\∀s t,x=.el s t->(dP t=true->jj c l ns t)/\(gw t=true->kj c l ns t)
theorem Mu(T:Tm):NT c l ns T:=by
 have nl:∀{x:Tm}{P:Prop},x∈([]:List Tm)->P:=λh=>VC h PH;have f:∀{P:Prop},false=true->P:=λh=>VC h PC;induction T with
 |nil=>exact⟨f,f,λs t e=>(nomatch e),λx h=>nl h⟩
 |cons a r iha ihr=>exact⟨f,f,λs t e=>(nomatch e),λx h=>(P0.mp h).elim (λe=>e▸⟨iha.v,iha.k⟩) (ihr.l x)⟩
 |leaf i=>exact⟨λj=>LV,f,λs t e=>(nomatch e),λx h=>nl h⟩
 |uni L k=>exact⟨λj=>IA (T:=.uni L) λy=>Og λx m=>(k.l x m).1 (y.2.2.2.2 x m),f,λs t e=>(nomatch e),λx h=>nl h⟩
 |int L k=>exact⟨λj=>IA (T:=.int L) λy=>vInt λx m=>(k.l x m).1 (y.2.2.2.2.2.2 x m),f,λs t e=>(nomatch e),λx h=>nl h⟩
 |arr t k=>have e:kj c l ns (.arr t):=Mc (T:=.arr t) λy=>NE (k.v y.2.1);exact⟨λj=>N8 e,λj=>e,λs t e=>(nomatch e),λx h=>nl h⟩
 |ro t k=>have e:gw t=true->kj c l ns (.ro t):=λh=>OR (k.e h);exact⟨λj=>IA (T:=.ro t) λy=>OS (k.v y.2.1) e,e,λs t e=>(nomatch e),λx h=>nl h⟩
 |tup L k=>
  have e:kj c l ns (.tup L):=Mc (T:=.tup L) λy=>NI λx m s T e=>by subst e;have z:=(k.l _ m).2 s T rfl;have o:=sD (P:=g4) (λj j h=>h) m y.2.2.2.1;exact⟨z.1 o.2.2.1,λh=>z.2 (o.2.2.2 h)⟩
  exact⟨λj=>Nm e,λj=>e,λs t e=>(nomatch e),λx h=>nl h⟩
 |el s t k=>exact⟨f,f,λs t e=>by cases e;exact⟨k.v,k.e⟩,λx h=>nl h⟩
end
noncomputable def Pb(R:List Row):Nat->Nat->Prop
 |0,p=>∀row,R[p]?=some row->iY row=none
 |n+1,p=>∀row l ro,R[p]?=some row->iY row=some (l,ro)->∀x∈l,(ae R x.1).length<64/\∀q∈ae R x.1,Pb R n q
section
variable{R:List Row}
theorem uE(e:R[p]?=some row)(h:iY row=none):∀{n:Nat},Pb R n p:=by
 intro m;induction m with
 |zero=>exactλk b=>Qh (e.symm.trans b)▸h
 |succ _ o=>exactλk l ro b el=>by cases e.symm.trans b;exact bY (h.symm.trans el)
theorem iW:∀{n m:Nat}{p:Nat},n<=m->Pb R n p->Pb R m p
 |0,0,_,_,h=>h
 |0,_+1,_,_,h=>λrow l ro e el=>bY ((h row e).symm.trans el)
 |n+1,m+1,p,z,h=>λrow l ro e el x i=>have y:=h row l ro e el x i;⟨y.1,λq d=>iW (Rg z) (y.2 q d)⟩
noncomputable def ht:Tm->Nat
 |.cons a r=>max (ht a) (ht r)|.arr t=>ht t+1|.tup l=>ht l+1|.ro t=>ht t|.el _ t=>ht t|.uni l=>ht l|_=>0
theorem FF:∀{es:ja},∀x∈nrm R es,x.1 p->p=4\/∃y∈es,y.1 p:=by
 intro n;induction n with
 |nil=>intro x h _;exact VC h PH
 |cons y es ih=>
  intro x h v;have un:∀{S:bC},iw R S p->p=4\/S p:=λh=>h.2.1.elim .inr .inl;refine(RA (y.2=2)).elim (λe=>?_) λe=>?_
  ·rw[show nrm R (y::es)=_ from PW e] at h;rcases P0.mp h with rfl|h
   ·refine am (v.2.1) λS N k=>am (P1.mp N) λz hz l=>?_;subst l;unfold late at k;refine(RA (z.2=1)).elim (λm=>?_) λm=>?_
    ·rw[PW m] at k;exact(un k).imp_right λk=>(aK z (QP hz) k)
    rw[PV m] at k;exact .inr ⟨z,QP hz,k⟩
   exact .inr (aK x (QQ h) v)
  rw[show nrm R (y::es)=_ from PV e] at h;rcases P0.mp h with rfl|h
  ·refine(RA (y.2=1/\0∈es.map (·.2))).elim (λm=>?_) λm=>?_
   ·rw[PW m] at v;exact(un v).imp_right λk=>(aK y (.head _) k)
   rw[PV m] at v;exact .inr (aK y (.head _) v)
  exact(ih x h v).imp_right λo=>by exact am (o) λz hz k=>⟨z,.tail _ hz,k⟩
theorem Ap(h:LP R es ro p)(s:∀x∈es,(∀q,x.1 q->Pb R n q)/\∀t,PS R t=x.1->(ae R t).length<64):Pb R (n+1) p:=λrow l r e el x i=>by refine dg (h) λk g b Q m=>?_;cases e.symm.trans b;cases el.symm.trans Q;have z:=s (PS R x.1,x.2) (sB m (P1.mpr (aK x i rfl)));exact⟨z.2 x.1 rfl,λq d=>z.1 q d⟩
theorem F0(h:wE es n):∀x∈es,k9 x.1 n:=by
 induction es generalizing n with
 |nil=>exact bP
 |cons y r ih=>exact dg h λk j a b z=>eg (dM a (λc h=>h) (ID (ID (PM _ _) (PM _ _)) z)) λx m=>dM (ih b x m) (λc h=>h) (ID (Qp _ _) z)
theorem jJ(w:WF R):∀{T:Tm},g4 T->(∀r p,(aT R T).s r p->Pb R (ht T) p)/\(∀x∈(aT R T).e,∀p,x.1 p->Pb R (ht T) p)/\∀p,bB (aT R T).k p->Pb R (ht T) p
 |.nil,_=>⟨λr p h=>h.elim,bP,λp o=>am o λS h _=>VC h PH⟩
 |.cons a r,h=>by have A:=jJ w h.1;have B:=jJ w h.2;exact⟨λr p h=>h.elim,λx j p v=>(P3.mp j).elim (λm=>(iW (QY ..):∀{p},Pb R (ht a) p->Pb R (ht (.cons a r)) p) (A.2.1 x m p v)) λm=>(iW (Rd ..):∀{p},Pb R (ht r) p->Pb R (ht (.cons a r)) p) (B.2.1 x m p v),λp G=>am G λS Y k=>(P0.mp Y).elim (λe=>(iW (QY ..):∀{p},Pb R (ht a) p->Pb R (ht (.cons a r)) p) (A.1 0 p (sB e k))) λm=>(iW (Rd ..):∀{p},Pb R (ht r) p->Pb R (ht (.cons a r)) p) (B.2.2 p ⟨S,m,k⟩)⟩
 |.leaf i,_=>⟨λr p I=>by refine PO I λx q=>?_;have j:=q.1;have e:=q.2;exact uE e (d7 x (qZ j)).1,bP,λp d=>am d λS h _=>VC h PH⟩
 |.uni l,h=>⟨λr p k=>(jJ w (T:=l) h.2.2.2.1).2.2 p k.2.1,bP,λp n=>am n λS h _=>VC h PH⟩
 |.int l,h=>⟨λr p k=>eA ((dX (T:=l) h.2.2.2.2.1).2 p k.2.1.1) λx i j e=>uE e (d7 x (qZ j)).1,bP,λp J=>by refine am J λS h _=>?_;exact VC h PH⟩
 |.arr t,h=>by have A:=(jJ w h.1).1 0;exact⟨λr p k=>Ap k λx j=>by refine rR (PG.mp j) ?_;exact⟨A,λN e=>eO w (e▸(dl w t).1 0)|>λz=>PJ z h.2.2.2⟩,λx j p v=>by cases PG.mp j;exact iW (Qt _) (A p v),λp L=>am L λS h _=>VC h PH⟩
 |.tup l,h=>by
  have A:=(jJ w (T:=l) h.2.2.2.1).2.1;have el:∀x∈nrm R (aT R l).e,∀p,x.1 p->Pb R (ht l) p:=λx j p v=>(FF x j v).elim (λe=>e▸(uE (w.get (t:=4) rfl) rfl:Pb R (ht l) 4)) λg=>by refine PO g λy C=>?_;have k:=C.2;exact A y C.1 p k
  refine⟨λr p k=>Ap k λx j=>⟨el x j,λt e=>?_⟩,λx j p v=>iW (Qt _) (el x j p v),λp M=>am M λS h _=>VC h PH⟩;exact PJ (eO w (e▸F0 (Cs (R:=R) (fm w l).1).1 x j)) h.2.2.2.2.2.1
 |.ro t,h=>have A:=jJ w h.1;⟨λr p k=>A.1 1 p k,A.2.1,λp c=>by refine am c λS h _=>?_;exact VC h PH⟩
 |.el s t,h=>have A:=jJ w h.2.1;⟨λr p k=>k.elim,λx j p v=>by
   have j:x∈(if s=2 then(aT R t).e else[((aT R t).s 0,s)]):=j;by_cases e:s=2
   ·replace j:=(PW e)▸j;exact A.2.1 x j p v
   replace j:=(PV e)▸j;cases PG.mp j;exact A.1 0 p v,λp b=>PO b λS u=>VC u.1 PH⟩
theorem zI(hs:sep.length=1):∀{l:Y9},bv l<=(gW sep l).length+1:=λ{l}=>by
 have g:∀l:Y9,bv l<=(Str.join sep l).length+1:=λl=>by
  induction l with
  |nil=>exact PY _
  |cons x l ih=>
   induction l with
   |nil=>exact PD _
   |cons y l=>show x.length+1+bv (y::l)<=(x++sep++Str.join sep (y::l)).length+1;simp only[Qf,Qf,hs];exact lq ih
 show _<=(Builtin.Str.glued sep l).length+1;simp only[TA];exact g l
theorem Ao:jh es<=10*(cK es r).length/\∀x∈es,bv x.1.2<=(cK es r).length:=by
 have w:∀x:eY×Nat,bv x.1.2+2<=(cQ x).length:=λx=>by unfold cQ;simp only[Qf,Qf,Qf,Qf,c1.1,c1.2.1,pH];exact lq (zI (l:=x.1.2) c1.2.2.1)
 have t:bv (es.map cQ)<=(cK es r).length:=by unfold cK;simp only[Qf,Qf,Qf,c1.2.2.2.2.1,c1.2.2.2.2.2.1];exact lq (zI (l:=es.map cQ) c1.2.2.2.1)
 have a:∀es:nZ,jh es<=10*bv (es.map cQ)/\∀x∈es,bv x.1.2<=bv (es.map cQ):=λes=>by
  induction es with
  |nil=>exact⟨PY _,bP⟩
  |cons x es ih=>
   have k:=w x;have A:jh (x::es)=bv x.1.2+20+jh es:=rfl;have G:bv ((x::es).map cQ)=(cQ x).length+1+bv (es.map cQ):=rfl;refine⟨by exact lq (aO ih.1 (aO (vY 10 k) (aO (fW A) (vY 10 (mO G))))),λy B=>?_⟩;rcases P0.mp B with rfl|B
   ·exact lq (aO k (mO G))
   have:=ih.2 y B;exact lq (aO k (aO (mO G) this))
 exact⟨ID (a es).1 (QC _ t),λx h=>ID ((a es).2 x h) t⟩
theorem Df(h:s∈l):s.length+1<=bv l:=by
 induction l with
 |nil=>exact VC h PH
 |cons x l ih=>
  have e:bv (x::l)=x.length+1+bv l:=rfl;rcases P0.mp h with rfl|h
  ·exact lq (mO e)
  have:=ih h;exact lq (aO (mO e) this)
section
variable{σ:Hp}{Q:KV}
theorem qu{t:Type}{f:t->V}{g:t->PyData}(h:∀x,xA σ (f x) (g x)):∀{l:List t},sv σ (l.map f) (l.map g)
 |[]=>.nil
 |x::l=>.cons (h x) (qu h)
theorem pA{t:Type}{g:t->PyData}(h:∀x,PyData.canLay0 (g x)=true/\(g x).depth<=k):∀{l:List t},PyData.canLayAll0 (l.map g)=true/\PyData.depthAll (l.map g)<=k
 |[]=>⟨by simp only[Tl,PyData.canLayAll0],by simp only[Tl,PyData.depthAll];exact PY _⟩
 |x::l=>⟨by simp only[QG,PyData.canLayAll0,(h x).1,(pA h).1];rfl,by exact RH.mpr ⟨(h x).2,(pA h).2⟩⟩
structure NV(σ:Hp)(vs:Z7)(ds:List PyData):Prop where
 f:sv σ vs ds
 l:PyData.canLayAll0 ds=true/\PyData.depthAll ds<=2
theorem dy(i:Int):PyData.canLay0 (.int i)=true/\(PyData.int i).depth<=2:=⟨by simp only[PyData.canLay0],by simp only[PyData.depth];exact PY _⟩
theorem bm(h:PyData.canLay0 d=true/\d.depth<=2)(h':PyData.canLayAll0 ds=true/\PyData.depthAll ds<=2):PyData.canLayAll0 (d::ds)=true/\PyData.depthAll (d::ds)<=2:=
 ⟨by simp only[PyData.canLayAll0,h.1,h'.1];rfl,by exact RH.mpr ⟨h.2,h'.2⟩⟩
theorem eX:PyData.canLayAll0 []=true/\PyData.depthAll []<=2:=⟨by simp only[PyData.canLayAll0],by simp only[PyData.depthAll];exact PY _⟩
theorem iJ(h:PyData.canLayAll0 ds=true/\PyData.depthAll ds<=k):PyData.canLay0 (.tuple ds)=true/\(PyData.tuple ds).depth<=k+1:=⟨by simp only[PyData.canLay0,h.1],by simp only[PyData.depth];exact Qn h.2⟩
theorem qL(i:Int):PyData.canLay0 (.int i)=true/\(PyData.int i).depth<=0:=⟨by simp only[PyData.canLay0],by simp only[PyData.depth];exact PD _⟩
theorem pz(h:PyData.strOk s=true):PyData.canLay0 (.str s)=true/\(PyData.str s).depth<=2:=⟨by simp only[PyData.canLay0,h],by simp only[PyData.depth];exact PY _⟩
theorem LE{r:Row}(h:r≠.obj)(hs:∀s,r=.key s\/r=.str s->PyData.strOk s=true):∃vs ds,r.toV=.tup (nV r.kind::vs)/\NV σ vs ds/\∀s,r=.key s->ds=[.str s]:=by
 induction r with
 |obj=>exact VC rfl h
 |key s=>exact(ng _ ([.str s]) rfl ⟨.cons .str .nil,bm (pz (hs s (.inl rfl))) eX⟩ (λs' e=>by cases e;rfl))
 |bool v f=>exact(ng _ ([.int v,.int f]) rfl ⟨.cons .int (.cons .int .nil),bm (dy _) (bm (dy _) eX)⟩ (λs e=>by cases e))
 |str s=>exact(ng _ ([.str s,.int 0]) rfl ⟨.cons .str (.cons .int .nil),bm (pz (hs s (.inr rfl))) (bm (dy _) eX)⟩ (λs e=>by cases e))
 |num v=>exact(ng _ ([.int v,.int 0]) rfl ⟨.cons .int (.cons .int .nil),bm (dy _) (bm (dy _) eX)⟩ (λs e=>by cases e))
 |arr e ro=>exact(ng _ ([.int e,.int ro]) rfl ⟨.cons .int (.cons .int .nil),bm (dy _) (bm (dy _) eX)⟩ (λs e=>by cases e))
 |uni l=>exact(ng _ ([.tuple (l.map λ(i:Nat)=>.int i)]) rfl ⟨.cons (.tup (qu (f:=nV) λa=>.int)) .nil,bm (have z:=iJ (pA (l:=l) (g:=λi:Nat=>.int i) λi=>qL i);⟨z.1,QI z.2⟩) eX⟩ (λs e=>by cases e))
 |tup l ro=>exact⟨_,[.tuple (l.map λp=>.tuple [.int p.1,.int p.2]),.int ro],rfl,⟨.cons (.tup (qu (f:=pV) λa=>.tup (.cons .int (.cons .int .nil)))) (.cons .int .nil),bm (iJ (pA λp=>iJ ⟨by rfl,by simp only[PyData.depthAll,PyData.depthAll,PyData.depthAll];exact RH.mpr ⟨(qL _).2,RH.mpr ⟨(qL _).2,PD _⟩⟩⟩)) (bm (dy _) eX)⟩,λs e=>by cases e⟩
theorem uw{r:Row}(i:r≠.obj)(hs:∀s,r=.key s\/r=.str s->PyData.strOk s=true)(q:Q (.bool (decide (r=.key "never"))) σ):eE .Eq r.toV Q (.tup [.int 1,.str "never"]) σ:=by
 refine dg (LE (σ:=σ) i hs) λvs ds e D k=>?_;have h:qa σ .Eq r.toV (.tup [.int 1,.str "never"]) _:=rR e (qa.eq (.tup (.cons .int D.f)) (.tup (.cons .int (.cons .str .nil))) (P7.mpr ⟨(λh=>P7.mpr ⟨h.1,Qg (ID h.2 dD)⟩:∀{d:PyData},d.canLay0=true/\d.depth<=2+1->SeqAt.shaped d=true) (iJ (bm (dy (r.kind:Nat)) D.l)),(λh=>P7.mpr ⟨h.1,Qg (ID h.2 dD)⟩:∀{d:PyData},d.canLay0=true/\d.depth<=2+1->SeqAt.shaped d=true) (iJ (bm (dy 1) (bm (pz (bJ "never")) eX)))⟩));refine cw h ?_;have ev:PyData.eqv (.tuple (.int (r.kind:Nat)::ds)) (.tuple [.int 1,.str "never"])=decide (r=.key "never"):=by
  simp only[PyData.eqv,PyData.eqvAll,PyData.eqv];induction r with
  |key s=>simp only[k s rfl,PyData.eqvAll,PyData.eqv,PyData.eqvAll];simp only[TK,TJ];exact QJ.mpr ⟨λh=>PR Row.key h,λh=>Row.key.inj h⟩
  |_=>rfl
 exact rR ev q
end
end
noncomputable def AQ:X7:=[(.str "undefined",.int 1),(.str "null",.int 2),(.str "string",.int 896),(.str "number",.int 112),(.str "void",.int 1025),(.str "object",.int 2048),(.str "unknown",.int 8191)]
noncomputable def Bq:X7:=[(.str "a",.int 128),(.str "",.int 256)]
noncomputable def yB:X7:=[(.int 0,.int 16),(.int (-1),.int 32)]
def Mb(r:Row)(m:Nat):Bool:=match r with
 |.key s=>aI (.str s) AQ&&decide (aJ (.str s) AQ=some (nV m))
 |.str s=>aI (.str s) Bq&&decide (aJ (.str s) Bq=some (nV m))
 |.num i=>aI (.int i) yB&&decide (aJ (.int i) yB=some (nV m))
 |.bool v f=>decide (f=0)&&(decide (v<=1)&&decide (4*2^v=m))
 |_=>false
theorem Jw:∀x∈hJ,Mb x.1 x.2=true:=by decide+kernel
theorem q6:(AQ.map (·.1)).Nodup/\(Bq.map (·.1)).Nodup/\(yB.map (·.1)).Nodup/\AQ.all (λp=>cF p.1)=true/\Bq.all (λp=>cF p.1)=true:=by decide+kernel
section
variable{c:cR}{g:bM}{b t d:Nat}{X:Y8}{σ:Hp}{Q:KV}{l:Addr}{ns:Z9}{r:Row}{m:Nat}
theorem Jx(h:H c g b t X σ)(j:Mb r m=true)(q:∀p,H c g b t X p->Q (nV m) p):ad (aa l ns) (d+2) 1243 [r.toV] σ Q:=by
 induction r with
 |key s=>refine dQ (vB j) λf e=>?_;have e:=P9 e;refine ah (F:=gj) rfl rfl (bI (ag (a:=1) (b:=1) (aq (ah (F:=qj) rfl rfl ?_))));show d8 _ _ _;unfold d8;refine(Io AQ rfl rfl q6.2.2.2.1 dD q6.1 (λa w=>?_));have C:=h.new (o:=.dict AQ) w;have U:=C.loc (.head _);refine bk (.getD U) (bx rfl (kJ (.getD U f ?_)));exact rR e (q _ C.tail)
 |bool v f=>
  refine dQ (vB j) λu z=>dQ (vB z) λJ e=>?_;have u:=P9 u;have e:=P9 e;subst u e;refine ah (F:=gj) rfl rfl (bI (ag (a:=2) (b:=1) (af (bI (ag (a:=2) (b:=2) (db (x:=true) (y:=true) (λn k=>bx rfl (ag (a:=0) (b:=0) k)) (aq (bx rfl (da (.shl (Rb v) ?_ dD ?_))))))))))
  ·exact SF (SE.mpr (P9 J)) dD
  exact rR (show(4:Int)*2^((v:Nat):Int).toNat=((4*2^v:Nat):Int) by simp only[Tu];push_cast;rfl) (q _ h)
 |str s=>refine dQ (vB j) λf e=>?_;have e:=P9 e;refine ah (F:=gj) rfl rfl (bI (ag (a:=3) (b:=1) (af (bI (ag (a:=3) (b:=2) (db (x:=false) (y:=true) (λz=>VC z PC) (af (bI (ag (a:=3) (b:=3) (db (x:=true) (y:=true) (λn k=>bx rfl (D5 (a:=0) (b:=0) k)) (aq ?_)))))))))));show d8 _ _ _;unfold d8;refine(Io Bq rfl rfl q6.2.2.2.2 dD q6.2.1 (λa w=>?_));have C:=h.new (o:=.dict Bq) w;have U:=C.loc (.head _);refine bk (.getD U) (bx rfl (kJ (.getD U f ?_)));exact rR e (q _ C.tail)
 |num i=>refine dQ (vB (show(aI (.int i) yB&&decide (aJ (.int i) yB=some (nV m)))=true from j)) λf e=>?_;have e:=P9 e;refine ah (F:=gj) rfl rfl (bI (ag (a:=4) (b:=1) (af (bI (ag (a:=4) (b:=2) (db (x:=false) (y:=true) (λz=>VC z PC) (af (bI (ag (a:=4) (b:=3) (db (x:=false) (y:=true) (λz=>VC z PC) (af (bI (ag (a:=4) (b:=4) (db (x:=true) (y:=true) (λn k=>bx rfl (D5 (a:=0) (b:=0) k)) (aq (kr ?_))))))))))))))));unfold d8;refine⟨yB,rfl,rfl,rfl,by decide,q6.2.2.1,λa w=>?_⟩;have C:=h.new (o:=.dict yB) w;have U:=C.loc (.head _);refine bk (.getD U) (bx rfl (kJ (.getD U f ?_)));exact rR e (q _ C.tail)
 |_=>exact VC j PC
end
theorem AO:∀x∈hJ,∀y∈hJ,x.1≠y.1->x.1≠.key "unknown" ->y.1≠.key "unknown" ->(x.2&&&y.2&&&8190=0)\/(bn x.1≠0/\bZ[bn x.1]?=some y.1)\/(bn y.1≠0/\bZ[bn y.1]?=some x.1):=by decide+kernel
theorem jX:∀x∈hJ,d4 x.1=x.2/\iY x.1=none/\x.2≠0/\(∀s,x.1=.key s\/x.1=.str s->PyData.strOk s=true)/\x.1≠.key "never" /\(x.1.kind≠11/\x.1.kind≠12/\x.1.kind≠6)/\x.1≠.obj:=by
 have u:∀x∈hJ,(match x.1 with|.key s=>PyData.strOk s|.str s=>PyData.strOk s|_=>true)=true:=by decide+kernel
 refineλx h=>⟨(by decide+kernel:∀x∈hJ,d4 x.1=x.2) x h,(by decide+kernel:∀x∈hJ,iY x.1=none) x h,(by decide+kernel:∀x∈hJ,x.2≠0) x h,λs e=>?_,(by decide+kernel:∀x∈hJ,x.1≠.key "never") x h,(by decide+kernel:∀x∈hJ,x.1.kind≠11/\x.1.kind≠12/\x.1.kind≠6) x h,(by decide+kernel:∀x∈hJ,x.1≠.obj) x h⟩;have z:=u x h;rcases e with e|e<;>rw[e] at z<;>exact z
section
variable{R:List Row}
theorem iu(w:WF R)(o:ei R t)(e:R[t]?=some r)(u:t≠2)(q:cf R t):(∃m,(r,m)∈hJ)\/∃x,iY r=some x:=by
 have f:=w.fit t r e;have fr:t<16->(∃m,(r,m)∈hJ)\/∃x,iY r=some x:=λh=>by
  have c:bZ[t]?=some r:=(gZ w.first h).symm.trans e;rcases(by decide+kernel:∀t,t<16->t=0\/t=13\/t=14\/t=15\/t=11\/t=2\/t=12\/(bZ[t]?).all (λr=>(hJ.lookup r).isSome)=true) t h with h|h|h|h|h|h|h|h
  ·exact VC h o.2.1
  ·exact VC h o.2.2.1
  ·exact VC h o.2.2.2.1
  ·exact VC h o.2.2.2.2.1
  ·exact VC h o.2.2.2.2.2
  ·exact VC h u
  ·subst h;exact VC (w.get (t:=12) rfl) (q _)
  rw[c] at h;exact PO (Q3.mp h) λm M=>eA (Uz.mp M) λI p e _=>.inl ⟨m,rR e (PK _ (.head _))⟩
 induction r with
 |key s=>exact fr f
 |bool v k=>exact fr f
 |obj=>exact fr f
 |str s=>exact(show s="a" \/s="" from f).elim (λh=>.inl ⟨128,by refine rR h ?_;decide+kernel⟩) λh=>.inl ⟨256,by refine(Qe (h))▸?_;decide+kernel⟩
 |num s=>exact(show s=0\/s= -1 from f).elim (λh=>.inl ⟨16,by refine rR h ?_;decide+kernel⟩) λh=>.inl ⟨32,by refine(h)▸?_;decide+kernel⟩
 |uni l=>exact VC e (q l)
 |arr a b=>exact .inr ⟨_,rfl⟩
 |tup a b=>exact .inr ⟨_,rfl⟩
theorem GB(w:WF R)(h:p∈ae R t):p<=t:=by
 rcases bG w t with rfl|⟨l,e,c⟩|⟨a,b,e⟩
 ·exact nomatch cq▸h
 ·exact P2 ((w.fit t _ e).2.2 p (c▸h)).1
 exact(Qe (PG.mp (e▸h)))▸(PD _)
theorem LY(w:WF R)(e:R[t]?=some row)(el:iY row=some (l,ro)):∀x∈l,x.1<t:=by
 rcases iD el with rfl|⟨y,rfl,rfl⟩
 ·exactλx h=>((w.fit _ _ e).1 x h).1
 exactλx h=>by exact rR (PG.mp h) ((w.fit _ _ e).1)
theorem L5(w:WF R):(rd R t).1<8192:=Nat.lt_pow_two_of_testBit (n:=13) _ λi hi=>Qv.mpr λk=>by exact am (((kH w (t:=t)).bits i).mp k) λp _ l=>VC (xq l) (TF.mpr hi)
theorem Cb(w:WF R):∀t,∀s∈(rd R t).2,PyData.strOk s=true:=λt=>by
 induction t using Nat.strongRecOn with
 |ind t k=>
  intro s hs;obtain⟨_,p,v,h⟩:=((kH w (t:=t)).txt s).mp hs;unfold pt at h;cases l:R[p]? with
  |none=>replace h:=l▸h;exact VC h PH
  |some row=>
   replace h:=l▸h;have h:s∈(sK (rd R) row).2:=h;unfold sK at h;cases el:iY row with
   |none=>replace h:=el▸h;exact VC h PH
   |some x=>replace h:=el▸h;exact rR (PG.mp h) (zJ λy B=>by exact am (P1.mp B) λz hz A=>(Qe A)▸(k z.1 (P5 (LY w l el z hz) (GB w v))))
theorem qG(w:WF R)(u:t≠2)(r:cf R t):rd R t=pt R t:=by refine(kH w).uniq ?_;have e:PS R t=λq=>q=t:=funext λq=>QR (by unfold PS;exact rR (bf u r) PG);exact rR e Hy
theorem lZ(e:R[t]?=some row)(el:iY row=some (l,ro)):pt R t=(0,[cK (l.map λy=>(rd R y.1,y.2)) (decide (ro=1))]):=by unfold pt;refine rR e (?_:sK _ row=_);unfold sK;refine rR el ?_;rfl
theorem apart(w:WF R)(o:ei R t)(v:p∈ae R t)(d:q∈ae R t)(n:p≠q)(i:t≠1)(f:(pt R p).1.testBit b=true)(Q:(pt R q).1.testBit b=true):b=0:=by
 have row:∀{p},p∈ae R t->(pt R p).1.testBit b=true->∃r m,R[p]?=some r/\(r,m)∈hJ/\(pt R p).1=m:=λ{p} v f=>by
  have P:=w.parts o v;have e:=P4 P.1.1;rcases iu w P.1 e P.2.1 P.2.2 with ⟨m,M⟩|⟨x,el⟩
  ·exact(ng _ m e M (rR (cn e (jX _ M).2.1) ((jX _ M).1)))
  rw[lZ e el] at f;exact VC ((Rl b).symm.trans f) PC
 refine dg (row v f) λr m e A B=>dg (row d Q) λs k c u g=>?_;have nn:∀{p r},p∈ae R t->R[p]?=some r->r≠.key "unknown":=λv e z=>jo w i v (w.uniq (z▸e) (w.get (t:=1) rfl));rcases AO _ A _ u (λz=>n (w.uniq e ((show s=r from z.symm)▸c))) (nn v e) (nn d c) with z|⟨z,y⟩|⟨z,y⟩
 ·rw[B] at f;rw[g] at Q;have G:(m&&&k&&&8190).testBit b=(8190:Nat).testBit b:=by rw[Sh,Sh,f,Q];rfl
  rw[z,Rl] at G;exact(by decide:∀b,b<13->false=(8190:Nat).testBit b->b=0) b (xq (R:=R) (p:=p) (B▸f)) G
 ·exact VC (w.uniq c (w.get y)▸d) ((λ{p r} v e n=>((RT (w.norm o) p).mpr v).2.2 r e n:∀{p r},p∈ae R t->R[p]?=some r->bn r≠0->bn r∉ae R t) v e z)
 exact VC (w.uniq e (w.get y)▸v) ((λ{p r} v e n=>((RT (w.norm o) p).mpr v).2.2 r e n:∀{p r},p∈ae R t->R[p]?=some r->bn r≠0->bn r∉ae R t) d c z)
end
section
variable{c:cR}{g:bM}{b t d n u:Nat}{X Y:Y8}{σ:Hp}{Q:KV}{l:Addr}{ns:Z9}{r:Row}
def GT(c:cR)(l:Addr)(ns:Z9)(n:Nat):=∀⦃d g b t X σ Q p⦄,WF g.rows->ei g.rows p->p≠2->cf g.rows p->Pb g.rows n p->bv (rd g.rows p).2<=10000->H c g b t X σ->i4 c g b t X (rd g.rows p) Q->ad (aa l ns) (d+2*n+3) 1248 [.ref c.tab,nV p] σ Q
def Hj(c:cR)(l:Addr)(ns:Z9)(n:Nat):=∀⦃d g b t X σ Q p⦄,WF g.rows->ei g.rows p->(ae g.rows p).length<64->(∀q∈ae g.rows p,Pb g.rows n q)->bv (rd g.rows p).2<=10000->H c g b t X σ->i4 c g b t X (rd g.rows p) Q->ad (aa l ns) (d+2*n+4) 1248 [.ref c.tab,nV p] σ Q
theorem wh(k:ai c){D m:Nat}(w:WF g.rows)(v:u≠2)(s:cf g.rows u)(e:g.rows[u]?=some r)(M:(r,m)∈hJ)(h:H c g b t X σ)(q:i4 c g b t X (rd g.rows u) Q):ad (aa l ns) (D+3) 1248 [.ref c.tab,nV u] σ Q:=by have i:=jX _ M;simp only[qG w v s,cn e i.2.1,i.1] at q;refine ah (F:=gq) rfl rfl (dw k h (iT h e (uw i.2.2.2.2.2.2 i.2.2.2.1 ?_)));exact rR (Qb i.2.2.2.2.1) (af (bI (ag (b:=11) (az (λz=>VC z i.2.2.2.2.2.1.1) λf=>bI (ag (b:=12) (az (λz=>VC z i.2.2.2.2.2.1.2.1) λf=>bI (oe (b:=6) (az (λf=>Jx (m:=m) h (Jw _ M) λo C a x=>q a _ (C.new x)) λz=>VC i.2.2.2.2.2.1.2.2 z))))))))
theorem L3(h:ro<=1):∀σ:Hp,Tr σ (nV ro) (decide (ro=1)):=λσ=>by exact sB (QJ.mpr ⟨λz=>by lia,λz=>by omega⟩:decide ((ro:Int)≠0)=decide (ro=1)) .int
theorem zQ{a:Addr}{ro D:Nat}{row:Row}(w:WF g.rows)(h:H c g b t ((a,.list (ys.map yV))::(Y++X)) σ)(f:∀y∈ys,Kp Y y.1)(G:p≠2)(I:cf g.rows p)(e:g.rows[p]?=some row)(el:iY row=some (es,ro))(j:ro<=1)(ev:eM ys=es.map λy=>(rd g.rows y.1,y.2))(s:bv (rd g.rows p).2<=10000)(q:i4 c g b t X (rd g.rows p) Q):ad (aa l ns) (D+1) 1226 [.ref a,nV ro] σ λv σ=>∀o,σ o=none->Q (.tup [.int 0,.ref o]) (upd σ o (.list [v])):=by
 rw[qG w G I,lZ e el] at s q
 have J:=Ao (es:=es.map λy=>(rd g.rows y.1,y.2)) (r:=decide (ro=1))
 refine CD (r:=decide (ro=1)) h (.head _) (λy B=>.tail _ (PZ _ (f y B))) (λy B=>?_) (L3 j) ((Qe (ev))▸(ID J.1 (QC 10 (R0 (s:(cK (es.map λy=>(rd g.rows y.1,y.2)) (decide (ro=1))).length+1<=10000))))) λL C o i=>?_
 ·have z:(y.1.1,y.2)∈es.map λy=>(rd g.rows y.1,y.2):=sB ev (P1.mpr (aK y B rfl));exact PO (P1.mp z) λx A=>sB (show rd g.rows x.1=y.1.1 from(Sq A.2).1) (sB (show x.2=y.2 from(Sq A.2).2) ⟨L5 w,(kC w e el x A.1).2⟩)
 ·exact rR ev (q o _ (H.keep (Y:=_::Y) (C.new i)))
theorem GL{p:Addr×O}{z:(eY×Addr)×Nat}(h:∀y∈ys,Kp Y y.1)(hz:Kp (p::Y) z.1):∀y∈ys++[z],Kp (p::Y) y.1:=λy B=>(P3.mp B).elim (λm=>.tail _ (h y m)) λm=>by exact rR (PG.mp m) hz
theorem De(ck:ai c)(ih:Hj c l ns n){row:Row}{x:V9×Nat}(w:WF g.rows)(N:p≠2)(T:cf g.rows p)(e:g.rows[p]?=some row)(G:iY row=some x)(hp:Pb g.rows (n+1) p)(L:bv (rd g.rows p).2<=10000)(h:H c g b t X σ)(q:i4 c g b t X (rd g.rows p) Q):ad (aa l ns) (d+2*(n+1)+3) 1248 [.ref c.tab,nV p] σ Q:=by
 obtain⟨es,ro⟩:=x
 have el:=G
 have rl:=L
 replace rl:=(qG w N T)▸rl;replace rl:=(lZ e el)▸rl
 have A:∀x∈es,∀{g':bM}{C:Y8}{o B},g'=g->H c g b t C o->i4 c g b t C (rd g.rows x.1) B->ad (aa l ns) (d+2*n+4) 1248 [.ref c.tab,nV x.1] o B:=λx m {g' C o B} ø h' q'=>
  have z:=hp row es ro e el x m
  ih w (kC w e el x m).1 z.1 z.2 (ID (Ao.2 (rd g.rows x.1,x.2) (P1.mpr (aK x m rfl))) (R0 (rl:(cK (es.map λy=>(rd g.rows y.1,y.2)) (decide (ro=1))).length+1<=10000))) h' q'
 have so:∀{s:Str},(∃z,iY row=some z)->row=.key s\/row=.str s->PyData.strOk s=true:=λz1 k=>by obtain⟨z,hz⟩:=z1;exact k.elim (λk=>by subst k;exact bY hz) λk=>by subst k;exact bY hz
 have no:row≠.obj:=λk=>by subst k;exact bY el
 refine ah (F:=gq) rfl rfl (dw ck h (iT h e (uw no (λs=>so ⟨_,el⟩) ?_)))
 refine rR (Qb (λk=>by subst k;exact bY el:row≠.key "never")) (af ?_)
 rcases iD el with rfl|⟨y,rfl,rfl⟩
 ·refine bI (ag (a:=12) (b:=11) (af (bI (ag (a:=12) (b:=12) (aq (bx rfl ?_))))));refine oM (f:=pV) .tup (ID (P2 (w.fit _ _ e).2.2.2) dD) (λs acc σ=>∀Z:Prop,(∀(ys:Ys)Y,acc=ys.map yV->eM ys=s.map (λy=>(rd g.rows y.1,y.2))->(∀y∈ys,Kp Y y.1)->H c g b t (Y++X) σ->Z)->Z) (λZ z=>z [] [] rfl rfl (bP) h) (λs x r ee R acc hR σ i=>i _ λys Y U ev M I=>?_) λacc σ i=>i _ λys Y U ev M I=>?_
  ·refine⟨.tup,_,_,rfl,A x (rR ee (PK _ (.head _))) rfl I λv o j=>hR _ _ λZ z=>z (ys++[((rd g.rows x.1,v),x.2)]) (_::Y) ?_ ?_ (GL M (.head _)) j⟩
   ·exact rR U ((PU (f:=yV) (l₁:=ys) (l₂:=[((rd g.rows x.1,v),x.2)])).symm)
   exact rR PU (sB ev PU)
  exact rR U ⟨.tup,λa J=>bx rfl (zQ (D:=d+2*n+3) w (I.new J) M N T e el (w.fit _ _ e).2.1 ev L q)⟩
 ·refine bI (ag (a:=11) (b:=11) (aq (bx rfl (A (y,2) (.head _) rfl h λv o j a J=>bx rfl (zQ (ys:=[((rd g.rows y,v),2)]) (Y:=[_]) (D:=d+2*n+3) w (j.new J) (λy hy=>(Qe (PG.mp hy))▸(.head _)) N T e el (w.fit _ _ e).2.2 rfl L q)))))
theorem vT:∀{l:Y9},aN (l.map V.str)=l.map PyData.str:=by
 intro m;induction m with
 |nil=>exact rfl
 |cons s l ih=>exact PR (PyData.str s:: ·) ih
theorem Mv(e:σ v.2=some (.list (v.1.2.map V.str)))(f:σ a0=some (.list []))(y:∀s∈v.1.2,PyData.strOk s=true)(q:Q (.bool (decide (v.1.1=0/\v.1.2=[]))) σ):eE .Eq (vV v) Q (.tup [.int 0,.ref a0]) σ:=by
 have k:(v.1.2.map V.str).all cF=true:=Qc.mpr λx j=>by exact am (P1.mp j) λs hs M=>(M)▸(y s hs)
 have T:∀{l:Y9},(∀s∈l,PyData.strOk s=true)->PyData.canLayAll0 (l.map PyData.str)=true/\PyData.depthAll (l.map PyData.str)<=1:=λ{l}=>by
  induction l with
  |nil=>exactλa=>⟨by rw[Tl,PyData.canLayAll0],by rw[Tl,PyData.depthAll];exact PY _⟩
  |cons s l ih=>intro h;have i:=ih λx j=>h x (.tail _ j);exact⟨by simp only[QG,PyData.canLayAll0,(pz (h s (.head _))).1,i.1];rfl,by exact RH.mpr ⟨PY _,i.2⟩⟩
 have w:∀{ds:List PyData},PyData.canLayAll0 ds=true/\PyData.depthAll ds<=1->PyData.canLay0 (.list ds)=true/\(PyData.list ds).depth<=2:=λh=>⟨by rw[PyData.canLay0,h.1],by rw[PyData.depth];exact Qn h.2⟩;have h:qa σ .Eq (vV v) (.tup [.int 0,.ref a0]) _:=qa.eq (.tup (.cons .int (.cons (vT▸ .list e k) .nil))) (.tup (.cons .int (.cons (.list f rfl) .nil))) (P7.mpr ⟨(λh=>P7.mpr ⟨h.1,Qg (ID h.2 dD)⟩:∀{d:PyData},d.canLay0=true/\d.depth<=2+1->SeqAt.shaped d=true) (iJ (bm (dy (v.1.1:Nat)) (bm (w (T y)) eX))),(λh=>P7.mpr ⟨h.1,Qg (ID h.2 dD)⟩:∀{d:PyData},d.canLay0=true/\d.depth<=2+1->SeqAt.shaped d=true) (iJ (bm (dy 0) (bm (w (T (l:=[]) bP)) eX)))⟩);refine cw h ?_;have ev:PyData.eqv (.tuple [.int (v.1.1:Nat),.list (v.1.2.map PyData.str)]) (.tuple [.int 0,.list (aN [])])=decide (v.1.1=0/\v.1.2=[]):=by
  simp only[PyData.eqv,PyData.eqvAll,PyData.eqv,PyData.eqvAll,PyData.eqv,PyData.eqvAll,TJ];have A:(((v.1.1:Nat):Int)==0)=decide (v.1.1=0):=QJ.mpr Int.natCast_eq_zero;refine rR A ?_;cases v.1.2 with
  |nil=>rw[Tl,show aN []=[] from rfl,PyData.eqvAll,TJ];exact QJ.mpr ⟨λh=>⟨h,rfl⟩,And.left⟩
  |cons s ws=>rw[QG,show aN []=[] from rfl,PyData.eqvAll,Sz];exact(Qb λh=>nomatch h.2).symm
 exact(PR (λb=>Q (.bool b) σ) ev).mpr q
section
variable{R:List Row}
theorem vK{f:Nat->Y9}(h:∀p,(f p).length<=1):∀{s:W9},(s.flatMap f).length<=s.length
 |[]=>PD _
 |p::s=>by rw[QE,PQ,RI,RP];exact Qu (vK h) (h p)
theorem yY{s:W9}(h:VS R v λp=>p∈s):v.2.length<=s.length:=by
 refine ID (jq h.nd (r:=s.flatMap λp=>(pt R p).2) λx i=>let ⟨_,p,w,y⟩:=(h.txt x).mp i;Rs.mpr ⟨p,w,y⟩) ?_;have one:∀p,(pt R p).2.length<=1:=λp=>by
  unfold pt;cases R[p]? with
  |none=>exact PY _
  |some row=>
   show(sK (rd R) row).2.length<=1;unfold sK;cases iY row with
   |none=>exact PY _
   |some x=>exact PD _
 exact vK λp=>one p
theorem readAny(ck:ai c)(one:GT c l ns n):Hj c l ns n:=λ{d g b t X σ Q p} w o hn hp hl h q=>by
 rcases bG w p with rfl|⟨m,e,G⟩|⟨n2,nu,e1⟩
 ·rw[(kH w (t:=2)).uniq (ke λq j=>VC (sB cq j:q∈[]) PH)] at q;refine ah (F:=gq) rfl rfl (dw ck h (iT h (w.get (t:=2) rfl) (uw (λz=>nomatch z) (λs e=>?_) ?_)))
  ·rcases e with e|e
   ·exact sB (Row.key.inj e) (bJ _)
   exact nomatch e
  exact aq λa ha=>q a _ (h.new ha)
 ·rw[G] at hn hp;have mo:=λq (j:q∈m)=>(w.parts o (G▸j):ei g.rows q/\q≠2/\cf g.rows q);have n1:p≠1:=λz=>by subst z;exact nomatch (w.get (t:=1) rfl).symm.trans e
  have I:(λq=>q∈m)=PS g.rows p:=by unfold PS;exact rR G rfl
  have rp:=kH w (t:=p);refine ah (F:=gq) rfl rfl (dw ck h (iT h e (uw (λz=>nomatch z) (λs k=>k.elim (λk=>nomatch k) λk=>nomatch k) ?_)));refine af (bI (ag (a:=6) (b:=11) (af (bI (ag (a:=6) (b:=12) (af (bI (oe (a:=6) (b:=6) (af λa0 Y2=>bx rfl ?_)))))))));have B:∀q∈m,(pt g.rows q).1.testBit 12=false:=λq j=>by
   have P:=mo q j;have eq:=P4 P.1.1;rcases iu w P.1 eq P.2.1 P.2.2 with ⟨k,hk⟩|⟨x,el⟩
   ·have b:=jX _ hk;rw[cn eq b.2.1];exact rR (show d4 _=_ from b.1) ((((by decide+kernel:∀x∈hJ,x.1≠.key "unknown" ->x.2.testBit 12=false)) _ hk) (λz=>jo w n1 (G▸j) (w.uniq (z▸eq) (w.get (t:=1) rfl)):g.rows[q]'P.1.1≠.key "unknown"))
   rw[lZ eq el];exact Rl 12
  have T:(rd g.rows p).1.testBit 12=false:=Qv.mpr λz=>by exact am ((rp.bits 12).mp z) λq j y=>VC ((B q (G▸j)).symm.trans y) PC
  refine gO (f:=nV) .tup (λs ρ σ=>∀Z:Prop,(∀A Y w4 w5 w6,VS g.rows A.1 (λq=>q∈s)->ρ=[some (.ref c.tab),some (nV p),some (Row.uni m).toV,some (vV A),w4,w5,w6,none,none]->Kp Y A->H c g b t (Y++X) σ->Z)->Z) (λZ z=>z ((0,[]),a0) [_] none none none (ke bP) rfl (.head _) (h.new Y2)) (λs x r ee R hR ρ σ i=>i _ λA Y w4 w5 w6 vs er kv h1=>?_) λρ σ i=>i _ λA Y w4 w5 w6 vs er kv h1=>?_
  ·refine rR er ?_;have hx:x∈m:=ee▸PK _ (.head _);have hs:∀q∈s,q∈m:=λq j=>ee▸PZ _ j;have P:=mo x hx;have rx:=qG w P.2.1 P.2.2;have lx:bv (rd g.rows x).2<=10000:=by
    have M:(rd g.rows x).2.length<=1:=by have z:=yY (R:=g.rows) (v:=rd g.rows x) (s:=[x]) (by have y:=kH w (t:=x);rw[show PS g.rows x=λq=>q∈[x] from funext λq=>PR (q∈ ·) (bf P.2.1 P.2.2)] at y;exact y);exact z
    cases ew:(rd g.rows x).2 with
    |nil=>exact PY _
    |cons a as=>rw[ew] at M;have Z2:as=[]:=RW.mp (Vx.mp (Rg M));exact(Qe Z2)▸(ID (Df ((λC hw=>(rp.txt C).mpr ⟨T,x,(RT I x).mp hx,qG w P.2.1 P.2.2▸hw⟩:∀C∈(rd g.rows x).2,C∈(rd g.rows p).2) a (ew▸ .head _))) hl)
   have WL:∀s∈A.1.2,PyData.strOk s=true:=λC hw=>by obtain⟨_,q,j,y⟩:=(vs.txt C).mp hw;exact Cb w p C ((rp.txt C).mpr ⟨T,q,(RT I q).mp (hs q j),y⟩)
   refine⟨.tup,one (d:=d) w P.1 P.2.1 P.2.2 (hp x hx) lx h1 λa' Wa h2=>bx rfl (bx rfl (da (.and (da (.and (cw .gt ?_))))))⟩;have z0:A.1.1&&&(rd g.rows x).1&&&8190=0:=TM λi=>by
    rw[Sh,Sh,Rl];by_cases y1:A.1.1.testBit i=true
    ·by_cases y2:(rd g.rows x).1.testBit i=true
     ·refine am ((vs.bits i).mp y1) λq j y3=>?_;have nx:q≠x:=λz=>by have nd:=w.ndp p;rw[G,ee] at nd;exact(Q8.mp nd).2.2 q j x (.head _) z
      rw[rx] at y2;have i0:=apart w o ((RT I q).mp (hs q j)) ((RT I x).mp hx) nx n1 y3 y2;subst i0;rw[y1,show(8190:Nat).testBit 0=false by decide,Sz]
     rw[Qv.mpr y2,Sz,SA]
    rw[Qv.mpr y1,SA,SA]
   rw[lR,show Builtin.bitAnd (((A.1.1&&&(rd g.rows x).1:Nat)):Int) 8190=((A.1.1&&&(rd g.rows x).1&&&8190:Nat):Int) from lR _ 8190,z0];have nz: ¬((rd g.rows x).1=0/\(rd g.rows x).2=[]):=λz=>by
    rcases iu w P.1 (P4 P.1.1) P.2.1 P.2.2 with ⟨k,hk⟩|⟨y,el⟩
    ·have b:=jX _ hk;rw[rx,cn (P4 P.1.1) b.2.1] at z;exact b.2.2.1 (b.1.symm.trans z.1)
    rw[rx,lZ (P4 P.1.1) el] at z;exact nomatch z.2
   have nk:(g.rows[x]'P.1.1).kind≠6:=λz=>by obtain⟨L,e⟩:=we z;exact P.2.2 L (e▸P4 P.1.1)
   refine af λa1 J=>Mv (v:=(rd g.rows x,a')) ((h2.new (o:=.list []) J).loc (.tail _ (.head _))) (PW rfl) (Cb w x) (rR (Qb nz) ?_);have h3:=h2.new (o:=.list []) J;refine af (dw ck h3 (iT h3 (P4 P.1.1) (bI (ag (b:=6) ?_))));rw[Qb nk];refine af λa2 c3 a3 i3=>uC (d:=d+2*n+2) (xs:=[A,(rd g.rows x,a'),((0,[]),a2)]) ((h3.new (o:=.list []) c3).new (o:=.list ([A,(rd g.rows x,a'),((0,[]),a2)].map vV)) i3) (.head _) (eg (.tail _ (.tail _ (.tail _ (.tail _ (PZ _ kv))))) (eg (.tail _ (.tail _ (.tail _ (.head _)))) (eg (.tail _ (.head _)) bP))) (eg WL (eg (Cb w x) (eg bP bP))) ?_ λa4 ij h6=>hR _ _ λZ z=>z (be [A.1,rd g.rows x,(0,[])],a4) ((a4,_)::(a3,_)::(a2,_)::(a1,_)::(a',_)::Y) _ _ _ ?_ rfl (.head _) h6
   ·show(A.1.2++((rd g.rows x).2++([]++[]))).length<64;rw[Qm,Qm,PQ];refine PJ (Qu (yY vs:A.1.2.length<=s.length) (show _<=1 from ?_)) (PJ (?_:s.length+1<=m.length) hn)
    ·exact yY (R:=g.rows) (s:=[x]) (by have y:=kH w (t:=x);rw[show PS g.rows x=λq=>q∈[x] from funext λq=>PR (q∈ ·) (bf P.2.1 P.2.2)] at y;exact y)
    refine rR ee (rR PQ ?_);exact P8 (Qn (PY _)) _
   have y:=nG (R:=g.rows) (Ss:=[λq=>q∈s,PS g.rows x,λø=>False]) ⟨_,_,rfl,vs,_,_,rfl,kH w,_,_,rfl,ke λø h=>h,rfl⟩;rw[show bB [λq=>q∈s,PS g.rows x,λø=>False]=λq=>q∈s++[x] from funext λq=>QR ⟨λU=>am U λS N k=>?_,λk=>(P3.mp k).elim (λk=>⟨_,.head _,k⟩) λk=>⟨_,.tail _ (.head _),by unfold PS;rw[bf P.2.1 P.2.2];exact k⟩⟩] at y
   ·exact y
   rcases P0.mp N with rfl|N
   ·exact PZ _ k
   rcases P0.mp N with rfl|N
   ·exact PK _ (bf P.2.1 P.2.2▸k)
   cases PG.mp N;exact k.elim
  refine rR er ?_;have ev:=(I▸vs).uniq rp;rw[<-ev] at q;exact⟨.tup,q A.2 _ (h1.sub ((List.singleton_sublist.mpr kv).append (Ts X)))⟩
 have z:=one (d:=d+1) (Q:=Q) w o n2 nu (hp p (rR e1 (.head _))) hl h q;rw[Qy d 1 (2*n)] at z;exact z
end
end
section
variable{c:cR}{b t d:Nat}{X:Y8}{σ:Hp}{Q:KV}{l:Addr}{ns:Z9}
section
variable{g:bM}
theorem F6(k:ai c)(n:Nat):GT c l ns n:=by
 induction n with
 |zero=>
  intro d g b t X σ Q p w o u r v s h q;have e:=P4 o.1;rcases iu w o e u r with ⟨m,M⟩|⟨x,el⟩
  ·exact wh k w u r e M h q
  exact bY ((v _ e).symm.trans el)
 |succ n y=>
  intro d g b t X σ Q p w o u r v s h q;have e:=P4 o.1;rcases iu w o e u r with ⟨m,M⟩|⟨x,el⟩
  ·exact wh k w u r e M h q
  exact De k (readAny k y) w u r e el v s h q
theorem H3(m:ai c)(w:WF g.rows)(e:Ty g.rows T u)(x:g4 T)(v:pb T<64)(r:(lb T).1<=10000)(h:H c g b t X σ)(q:i4 c g b t X (val T).v Q):ad (aa l ns) (d+2*ht T+4) 1248 [.ref c.tab,nV u] σ Q:=by
 have lw:bv (rd g.rows u).2<=10000:=by exact rR (e.rd w) (ID (ID (PI (PR bv (Qm _).symm)) (dF T (fG x)).1.l) r)
 exact readAny m (F6 m (ht T)) w e.ok (PJ (e.parts w) v) (λp k=>(jJ w x).1 0 p (sB (RT (e.eq _ (.refl w)) p) k)) lw h ((e.rd w)▸q)
end
@[reducible] noncomputable def bM.tk(g:bM):bM:={g with at_:=g.at_+1}
@[reducible] noncomputable def bM.nx(g:bM):bM:={g with nid:=g.nid+1}
section
variable{g:bM}{a:Addr}{K:KS}{ρ:Env}
theorem iE(k:ai c)(h:H c g (b+1) t X σ)(f:0<n)(q:∀r o,r<n->H c g.tk b t X o->Q (nV r) o):ad (aa l ns) (d+1) 1197 [.ref c.d,nV n] σ Q:=by
 refine ah (F:=qc) rfl rfl (cm (i:=0) h.c_d dD rfl (da (.add ?_)));have s:=h.s_at;show cL _ _ _ _ _ _;unfold cL;refine .list (i:=0) h.c_d (Ra _) dD ?_;have U:∀x:Int,tL .Mod (.int x) (Iz [some (.ref c.d),some (nV n),some (nV g.at_),some (.int x)] (vE (fS (aa l ns) (ad (aa l ns) d) .nil) (fJ Q))) (nV n) (upd σ c.d (.list [nV (g.at_+1),.ref c.nums])):=λx=>by refine da (.mod (by omega) ?_);have p:(0:Int)<n:=Td.mpr f;have e:x.fmod n=((x.fmod n).toNat:Nat):=(Int.toNat_of_nonneg (Int.fmod_nonneg_of_pos x p)).symm;exact rR e (q _ _ (by have:=Int.fmod_lt_of_pos x p;omega) s)
 refine cm (i:=1) s.c_d dD rfl (kX (.lenL s.c_nums (ID (PI (PL _)) (ID k.len dD)) (ez (az (λz=>?_) λz=>?_))))
 ·have j:g.at_<c.ns.length:=P5 z (PI (PL _));exact cm (i:=1) s.c_d dD rfl (cm s.c_nums (PJ (Qp _ _) h.lt:g.at_<1000000) (cZ j) (U _))
 exact da (.mul (Q0 (PJ (Qp _ _) h.lt:g.at_<1000000) dD) (da (.add (U _))))
theorem LZ(h:u7 σ x k (.int u))(r:∀{Q:KV},Q (.int i) σ->e ρ σ Q)(q:wy σ (Hf x k ρ K) op (.int u) (.int i)):tX x op e ρ K k σ:=by unfold tX;refine(aK _ h (r ?_));unfold y9;exact .mk q
theorem Jj(k:ai c)(h:H c g (b+1) t X σ)(mk:(ka,.list (ks.map V.ref))∈X)(q:∀a dx r,At ((a,.inst 38 dx (NW kind av ka fl (g.nid+1)))::X) a kind av ks fl (g.nid+1) dx ka->H c g.nx b t ((a,.inst 38 dx (NW kind av ka fl (g.nid+1)))::X) r->Q (.ref a) r):ad (aa l ns) (d+4) 1255 [.ref c.w,nV kind,av,.ref ka,nV fl] σ Q:=by
 have wf:∀n,aI (.str "nid") (wL c n)=true:=λn=>P7.mpr ⟨bJ _,rfl⟩
 have p:∀n,aJ (.str "nid") (wL c n)=some (nV n):=λn=>by rfl
 refine ah (F:=rg) rfl rfl (LZ (.dict h.c_w (wf _) (p _)) (λq=>q) (.add (jT h.c_w (wf _) (P6 rfl) ?_)))
 refine rM h.s_nid.c_w (wf _) (p _) (ah (F:=tE) rfl rfl (lS rfl λa dx n w j=>?_))
 have e:∀{σ:Hp}{o:O},upd σ a o a=some o:=PW rfl
 refine ah (F:=oF) rfl rfl (fK e (dU rfl) rfl (fK e (dU rfl) rfl (fK e (dU rfl) rfl (fK e (dU rfl) rfl (fK e (dU rfl) rfl (fK e (dU rfl) rfl ⟨rfl,?_⟩))))))
 refine rR eR (rR eR (rR eR (rR eR (rR eR (rR eR ?_)))))
 have i:H c g.nx b t ((a,.inst 38 dx [("kind",nV kind),("a",av),("kids",.ref ka),("flags",nV fl),("at",nV (g.nid+1)),("nid",.int 0)])::X) _:=(h.s_nid.inst (C:=38) n w j).head
 simp only[eR] at i
 refine rM i.c_w (wf _) (p _) (fK e (dU rfl) rfl ?_)
 exact q a dx _ ⟨.head _,.tail _ mk⟩ (i.head)
end
end
abbrev Us:=Nat->Option Nd
structure St(c:cR)(g:bM)(b t:Nat)(X:Y8)(σ:Hp)(U:Us):Prop where
 h:H c g b t X σ
 go:Go g U
 bd:∀n M,U n=some M->n<=g.nid
 nd:g.wt.Nodup
 id:∀x∈g.wt,x.2<=g.nid
structure Le(g g':bM)(U U':Us)(X X':Y8):Prop where
 up:∀n M,U n=some M->U' n=some M
 nid:g.nid<=g'.nid
 rows:g.rows<+:g'.rows
 keep:∀p∈g.types,p∈g'.types
 told:∀x∈cW g,x∈cW g'
 wt:∀x∈g.wt,x∈g'.wt
 deep:g'.deep=g.deep
 wlo:∀x∈g'.wt,x∈g.wt\/g.nid<x.2
 x:∃Y,X'=Y++X
structure Va(g:bM)(U:Us)(X:Y8)(N:Nd)(as:List Addr):Prop where
 sub:sub U N
 old:old N
 ok:tK N
 is:fB X N as
 tl:∀x∈tl N,x∈g.wt
 rf:jv g.types N
section
variable{c:cR}{g L:bM}{b t d:Nat}{X J:Y8}{σ:Hp}{Q:KV}{l:Addr}{ns:Z9}{U T:Us}
section
variable{I:bM}{C:Y8}{B:Us}{N:Nd}{as:List Addr}
theorem Le.mem(h:Le g L U T X J):∀p∈X,p∈J:=λp v=>jn (h.x) λY e=>rR e (PK _ v)
theorem Le.trans(a:Le g L U T X J)(e:Le L I T B J C):Le g I U B X C:=
 ⟨λn M h=>e.up n M (a.up n M h),ID a.nid e.nid,a.rows.trans e.rows,λp v=>e.keep p (a.keep p v),λp v=>e.told p (a.told p v),λp v=>e.wt p (a.wt p v),e.deep.trans a.deep,λx i=>(e.wlo x i).elim (a.wlo x) λz=>.inr (PJ a.nid z),by obtain⟨Y,rfl⟩:=a.x;obtain⟨Z,rfl⟩:=e.x;exact⟨Z++Y,(Qo ..).symm⟩⟩
theorem Le.refl:Le g g U U X X:=⟨λa a h=>h,PD _,Ry _,λa h=>h,λa h=>h,λa h=>h,rfl,λa h=>.inl h,[],rfl⟩
theorem cG(h:∀n M,U n=some M->T n=some M):∀{N:Nd},sub U N->sub T N
 |.nil,s=>s
 |.cons a r,s=>⟨cG h s.1,cG h s.2⟩
 |.leaf _ _,s=>h _ _ s
 |.uni _ l,s=>⟨h _ _ s.1,cG (N:=l) h s.2⟩
 |.int _ l,s=>⟨h _ _ s.1,cG (N:=l) h s.2⟩
 |.arr _ l,s=>⟨h _ _ s.1,cG (N:=l) h s.2⟩
 |.ro _ l,s=>⟨h _ _ s.1,cG (N:=l) h s.2⟩
 |.par _ l,s=>⟨h _ _ s.1,cG (N:=l) h s.2⟩
 |.ref _ l,s=>⟨h _ _ s.1,cG (N:=l) h s.2⟩
 |.tup _ l,s=>⟨h _ _ s.1,cG (N:=l) h s.2⟩
 |.el _ _ l,s=>⟨h _ _ s.1,cG (N:=l) h s.2⟩
theorem Va.mono(h:Le g L U T X J)(v:Va g U X N as):Va L T J N as:=⟨cG h.up v.sub,v.old,v.ok,fT h.mem _ v.is,λx i=>h.wt x (v.tl x i),bX h.keep v.rf⟩
theorem Le.take:Le g g.tk U U X X:=⟨λa a h=>h,PD _,Ry _,λa h=>h,λa h=>h,λa h=>h,rfl,λa h=>.inl h,[],rfl⟩
theorem Go.tk(G:Go g U):Go g.tk U:=⟨G.wf,G.pos,G.cache,G.sub,G.nd⟩
theorem pr(k:ai c)(s:St c g (b+1) t X σ U)(e:0<n)(q:∀r o,r<n->St c g.tk b t X o U->Q (nV r) o):ad (aa l ns) (d+1) 1197 [.ref c.d,nV n] σ Q:=
 iE k s.h e λr o i h=>q r o i ⟨h,s.go.tk,s.bd,s.nd,s.id⟩
theorem nE(k:ai c)(s:St c g (b+1) t X σ U)(M:Option Nd)(mk:(ka,.list (ks.map V.ref))∈X)(q:∀T a dx p o,Le g g.nx U T X (p::X)->St c g.nx b t (p::X) o T->(∀N,M=some N->T (g.nid+1)=some N)->At (p::X) a kind av ks fl (g.nid+1) dx ka->Q (.ref a) o):ad (aa l ns) (d+4) 1255 [.ref c.w,nV kind,av,.ref ka,nV fl] σ Q:=by
 refine Jj k s.h mk λa dx o at_ h=>?_
 have r:∀n N,U n=some N->(λn=>if n=g.nid+1 then M else U n) n=some N:=λn N e=>(PV ((λe=>Q9 (Qq (s.bd _ _ e)):∀{n N},U n=some N->n≠g.nid+1) e)).trans e
 refine q (λn=>if n=g.nid+1 then M else U n) a dx _ o ⟨r,Qt _,Ry _,λf h=>h,λf h=>h,λf h=>h,rfl,λf h=>.inl h,[_],rfl⟩ ⟨h,⟨s.go.wf,(PV (UA _).symm).trans s.go.pos,λp v=>am (s.go.cache p v) λN e z=>(aK N (r _ _ e) z),s.go.sub,s.go.nd⟩,λn N e=>?_,s.nd,λx i=>QI (s.id x i)⟩ (λN e=>(PW rfl).trans e) at_
 by_cases z:n=g.nid+1
 ·exact PI z
 ·exact QI (s.bd n N ((PV z).symm.trans e))
end
noncomputable def mV:X7:=[(.int 0,.str "undefined"),(.int 1,.str "null"),(.int 8,.str "string"),(.int 9,.str "number"),(.int 10,.str "boolean"),(.int 11,.str "void"),(.int 12,.str "object"),(.int 13,.str "unknown"),(.int 14,.str "never")]
theorem zO:(mV.map (·.1)).Nodup/\mV.all (λp=>cF p.1)=true:=by decide+kernel
theorem GE:∀i,i<15->(i=2\/i=3\/i=4\/i=5\/i=6\/i=7)/\(aJ (nV i) mV).isSome=false\/∃x∈zx,x.1=i/\aJ (nV i) mV=some (.str x.2.1):=by decide+kernel
theorem St.new(s:St c g b t X σ U)(e:σ a=none):St c g b t ((a,o)::X) (upd σ a o) U:=⟨s.h.new e,s.go,s.bd,s.nd,s.id⟩
theorem St.dec(s:St c g b t X σ U)(e:b'<=b):St c g b' t X σ U:=⟨s.h.dec e,s.go,s.bd,s.nd,s.id⟩
theorem Le.new:Le g g U U X (p::X):=⟨λa a h=>h,PD _,Ry _,λa h=>h,λa h=>h,λa h=>h,rfl,λa h=>.inl h,[p],rfl⟩
theorem zS(q:∀a,σ a=none->Q (.ref a) (upd σ a (.dict mV))):ad (aa l ns) (d+1) 1183 [] σ Q:=by refine ah (F:=oj) rfl rfl (?_:d8 _ _ _);unfold d8;exact(Io mV rfl rfl zO.2 dD zO.1 q)
theorem wO:aI (nV i) mV=true:=rfl
def OA(c:cR)(g:bM)(b t:Nat)(X:Y8)(U:Us)(i:Nat)(Q:KV):=∀L T J a n σ,Le g L U T X J->St c L b t J σ T->L.wt=g.wt->g.nid<n->n<=L.nid->T n=some (.leaf n i)->fB J (.leaf n i) [a]->Q (.ref a) σ
theorem Jh(m:ai c)(s:St c g (b+1) t X σ U)(lt:yx X i k)(q:OA c g b t X U i Q):∀a,σ a=none->ad (aa l ns) (d+4) 1255 [.ref c.w,.int 82,.str "",.ref a,.int 0] (upd σ a (.list [.ref k])) Q:=λa w=>by exact nE (kind:=82) (fl:=0) m (s.new (o:=.list ([k].map V.ref)) w) (some (.leaf (g.nid+1) i)) (.head _) λT u dx p r le st B at_=>q _ T _ u _ r (Le.new.trans le) st rfl (QF _) (PD _) (B _ rfl) (.inr λZ z=>z [k] dx a at_ (yx.mono (λp v=>.tail _ (.tail _ v)) [k] lt))
theorem pB(m:ai c)(hi:i<15)(hh:i=10->how≠0)(s:St c g (b+3) t X σ U)(q:OA c g b t X U i Q):ad (aa l ns) (d+5) 1262 [.ref c.w,nV i,nV how] σ Q:=by
 refine ah (F:=lQ) rfl rfl (ag (b:=10) (db (y:=decide (how=0)) (λø k=>ag (b:=0) k) (cD (λz=>?_) λø=>zS λa ha=>oY (.dict (PW rfl) wO) ?_)))
 ·exact dQ (vB z) λz1 z2=>VC (P9 z2) (hh (P9 z1))
 have A:=s.new (o:=.dict mV) ha;rcases GE i hi with ⟨cs,e⟩|⟨x,hx,rfl,e⟩
 ·refine rR e ?_;have f:∀{k:Addr}{Y:Y8}{g1:bM}{Wa U1},Le g g1 U U1 X Y->g1.wt=g.wt->St c g1 (b+1) t Y Wa U1->yx Y i k->∀a,Wa a=none->ad (aa l ns) (d+4) 1255 [.ref c.w,.int 82,.str "",.ref a,.int 0] (upd Wa a (.list [.ref k])) Q:=λle ew st lt=>Jh m st lt λL T J a n σ x3 V3 W3 C h N h4=>q L T J a n σ (le.trans x3) V3 (W3.trans ew) (PJ le.nid C) h N h4;rcases cs with rfl|rfl|rfl|rfl|rfl|rfl
  ·refine af (ez (a:=2) (b:=4) (aq λa1 C=>da (.sub (cm (i:=0) (PW rfl) dD rfl λM h=>?_))));have j:=((A.dec (b':=b+2) (Qt _)).new (o:=.list [.int 5,.int 4]) C).new (o:=.list []) h;exact nE (ks:=[]) m j none (.head _) λT u dx p r le st B at_=>f (((Le.new.trans Le.new).trans Le.new).trans le) rfl st (.fls at_)
  ·refine af (ez (a:=3) (b:=4) (aq λa1 C=>da (.sub (cm (i:=1) (PW rfl) dD rfl λM h=>?_))));have j:=((A.dec (b':=b+2) (Qt _)).new (o:=.list [.int 5,.int 4]) C).new (o:=.list []) h;exact nE (ks:=[]) m j none (.head _) λT u dx p r le st B at_=>f (((Le.new.trans Le.new).trans Le.new).trans le) rfl st (.tru at_)
  ·refine af (ez (a:=4) (b:=4) (af (ez (a:=4) (b:=6) (aq (da (.sub λM h=>?_))))));have j:=A.new (o:=.list []) h;refine nE (ks:=[]) (av:=.int 0) m j none (.head _) λT u dx p r le st B at_=>ag (a:=4) (b:=5) (kh (y:=decide (how=0)) (λø k=>ag (b:=0) k) (cD (λø a3 N=>?_) λø=>f ((Le.new.trans Le.new).trans le) rfl (st.dec (Qt _)) (.num at_)));have s3:=st.new (o:=.list ([u].map V.ref)) N;exact nE m s3 none (.head _) λU2 a4 Wv p2 ab w I Y3 G=>f ((((Le.new.trans Le.new).trans le).trans Le.new).trans w) rfl I (.neg (v:=0) rfl G (at_.mono λp hp=>.tail _ (.tail _ hp)))
  ·refine af (ez (a:=5) (b:=4) (af (ez (a:=5) (b:=6) (aq (da (.sub λM h=>?_))))));have j:=A.new (o:=.list []) h;refine nE (ks:=[]) (av:=.int 1) m j none (.head _) λT u dx p r le st B at_=>ag (a:=5) (b:=5) (aq (aq λa3 N=>?_));have s3:=st.new (o:=.list ([u].map V.ref)) N;exact nE m s3 none (.head _) λU2 a4 Wv p2 ab w I Y3 G=>f ((((Le.new.trans Le.new).trans le).trans Le.new).trans w) rfl I (.neg (v:=1) rfl G (at_.mono λp hp=>.tail _ (.tail _ hp)))
  ·refine af (ez (a:=6) (b:=4) (af (ez (a:=6) (b:=6) (af λa1 C=>da (.sub (cm (i:=0) (PW rfl) dD rfl λM h=>?_))))));have j:=((A.dec (b':=b+2) (Qt _)).new (o:=.list [.str "a",.str ""]) C).new (o:=.list []) h;exact nE (ks:=[]) m j none (.head _) λT u dx p r le st B at_=>f (((Le.new.trans Le.new).trans Le.new).trans le) rfl st (.str rfl (bJ "a") at_)
  refine af (ez (a:=7) (b:=4) (af (ez (a:=7) (b:=6) (af λa1 C=>da (.sub (cm (i:=1) (PW rfl) dD rfl λM h=>?_))))));have j:=((A.dec (b':=b+2) (Qt _)).new (o:=.list [.str "a",.str ""]) C).new (o:=.list []) h;exact nE (ks:=[]) m j none (.head _) λT u dx p r le st B at_=>f (((Le.new.trans Le.new).trans Le.new).trans le) rfl st (.str rfl (bJ "") at_)
 refine rR e (aq (zS λM h=>rM (PW rfl) wO e λa3 N=>?_));exact nE (kind:=80) (fl:=0) (ks:=[]) m (((A.dec (b':=b+1) (PM (b+1) 2)).new (o:=.dict mV) h).new (o:=.list []) N) (some (.leaf (g.nid+1) x.1)) (.head _) λT u dx p r le st B at_=>q _ T _ u _ r (((Le.new.trans Le.new).trans Le.new).trans le) (st.dec (PD _)) rfl (QF _) (PD _) (B _ rfl) (.inl λZ z=>z x.2.1 x.2.2 dx _ hx at_)
end
mutual
structure Me where
 p:Nat
 e:Nat
 h:Nat
 s:Nat
 t:Nat
 b:Nat
noncomputable def me:Tm->Me×Me
 |.nil=>(⟨0,0,0,0,0,0⟩,⟨0,0,0,0,0,0⟩)
 |.cons a r=>(⟨(me a).1.p+(me r).1.p,(me a).1.e+(me r).1.e,max (me a).1.h (me r).1.h,(me a).1.s+(me r).1.s,(me a).1.t+(me r).1.t,(me a).1.b+(me r).1.b⟩,(me a).1)
 |.leaf i=>(⟨if i=10 then 2 else 1,0,1,8,0,30⟩,⟨0,0,0,0,0,0⟩)
 |.uni l=>(⟨(me l).1.p+(me l).2.p+1,0,(me l).1.h+1,(me l).1.s+(me l).2.s+8,(me l).1.t+(me l).2.t,(me l).1.b+(me l).2.b+((me l).1.s+(me l).2.s+138)⟩,⟨0,0,0,0,0,0⟩)
 |.int l=>(⟨13,0,(me l).1.h+1,(me l).1.s+(me l).2.s+208,(me l).1.t+(me l).2.t,(me l).1.b+(me l).2.b+((me l).1.s+(me l).2.s+338)⟩,⟨0,0,0,0,0,0⟩)
 |.arr t=>(⟨1,(me t).1.p,(me t).1.h+1,(me t).1.s+140,(me t).1.t,(me t).1.b+((me t).1.s+270)⟩,⟨0,0,0,0,0,0⟩)
 |.tup l=>(⟨1,(me l).1.e,(me l).1.h+1,(me l).1.s+140,(me l).1.t+1,(me l).1.b+((me l).1.s+270)⟩,⟨0,0,0,0,0,0⟩)
 |.ro t=>(⟨(me t).1.p,(me t).1.e,(me t).1.h+1,(me t).1.s+140,(me t).1.t+(if gw t then 0 else 1),(me t).1.b+((me t).1.s+270)⟩,⟨0,0,0,0,0,0⟩)
 |.el s t=>(⟨(me t).1.p,if s=2 then(me t).1.e else(me t).1.p+(if s=1 then 1 else 0),(me t).1.h,(me t).1.s+135,(me t).1.t,(me t).1.b+20⟩,⟨0,0,0,0,0,0⟩)
structure Sp(k:Nat)(N:Nd)(T:Tm):Prop where
 s:∀R,WF R->∀r,(aT R (ex N)).s r=(aT R T).s r
 e:gw T=true->∀R,WF R->(aT R (ex N)).e=(aT R T).e
 li:gw (ex N)=gw T
 fl:bu (ex N)=bu T
 br:br (ex N)=br T
 p:pb (ex N)<=(me T).1.p
 eb:Internal.eb (ex N)<=(me T).1.e
 en:Internal.en (ex N)<=Internal.en T
 lv:Internal.lv N+k<=3*(me T).1.h
 fu:Internal.fu N+4*k<=44*(me T).1.h
 co:Internal.co N+k<=(me T).1.s
noncomputable def bL:List Nd->Nd|[]=>.nil|a::r=>.cons a (bL r)
noncomputable def toT:List Tm->Tm|[]=>.nil|a::r=>.cons a (toT r)
theorem kc:∀{T:Tm},jm T=true->toT (aF T)=T
 |.nil,_=>rfl
 |.cons a r,h=>PR (Tm.cons a) (kc (T:=r) h)
 |.leaf _,h=>VC h PC
 |.uni _,h=>VC h PC
 |.int _,h=>VC h PC
 |.arr _,h=>VC h PC
 |.tup _,h=>VC h PC
 |.ro _,h=>VC h PC
 |.el _ _,h=>VC h PC
theorem dB:∀{L:List Nd},lst (bL L)=L:=by
 intro l;induction l with
 |nil=>exact rfl
 |cons a r ih=>exact PR (a:: ·) ih
theorem n9:∀{L:List Nd},(∀x∈L,one x=true\/Bb x=true)->eH (bL L)=true:=by
 intro l;induction l with
 |nil=>intro _;exact rfl
 |cons a r ih=>intro h;exact P7.mpr ⟨Qw.mpr (h a (.head _)),ih λx i=>h x (.tail _ i)⟩
theorem Sp.leaf:Sp 1 (.leaf n i) (.leaf i):=⟨λa a a=>rfl,λh=>VC h PC,rfl,rfl,rfl,PD _,PD _,PD _,P6 rfl,P6 rfl,P6 rfl⟩
theorem Sp.par(h:Sp 1 N T):Sp 0 (.par n N) T:=⟨h.s,h.e,h.li,h.fl,h.br,h.p,h.eb,h.en,h.lv,h.fu,h.co⟩
theorem Sp.ref(h:Sp 1 N T):Sp 0 (.ref n N) T:=⟨h.s,h.e,h.li,h.fl,h.br,h.p,h.eb,h.en,PY _,ID (ID (by decide:3+4*0<=4*1) (Qp _ _)) h.fu,PY _⟩
theorem Sp.down(h:Sp 1 N T):Sp 0 N T:=⟨h.s,h.e,h.li,h.fl,h.br,h.p,h.eb,h.en,R0 h.lv,ID (PM _ 4) h.fu,R0 h.co⟩
theorem zM:bB [A,B]=λp=>A p\/B p:=funext λp=>QR ⟨λo=>am (o) λS m k=>(P0.mp m).elim (λe=>.inl ((Qe (e))▸k)) λm=>.inr ((PG.mp m)▸k),λh=>h.elim (λk=>⟨_,.head _,k⟩) λk=>⟨_,.tail _ (.head _),k⟩⟩
theorem Sp.bool:Sp 1 (.uni n (.cons (.leaf n1 3) (.cons (.leaf n2 2) .nil))) (.leaf 10):=by
 refine⟨λR w r=>?_,λh=>VC h PC,rfl,rfl,rfl,P6 rfl,P6 rfl,P6 rfl,P6 rfl,P6 rfl,P6 rfl⟩;show aC R (bB [(aT R (.leaf 3)).s 0,(aT R (.leaf 2)).s 0])=_;refine rR zM (sB (m5 w (T:=.leaf 10)) ?_);refine PR _ (funext λp=>QR ⟨λh=>h.elim (λo=>am (o) λx i e=>⟨x,.tail _ i,e⟩) λq=>am (q) λx i e=>⟨x,by refine rR (PG.mp (show x∈[Row.bool 0 0] from i)) ?_;exact .head _,e⟩,λg=>am g λx i e=>?_⟩);rcases P0.mp (show x∈[Row.bool 0 0,Row.bool 1 0] from i) with rfl|i
 ·exact .inr ⟨_,.head _,e⟩
 cases PG.mp i;exact .inl ⟨_,.head _,e⟩
noncomputable def Ky:Tm->Bool|.arr _=>true|.tup _=>true|_=>false
structure Wn(f:Nat)(g g':bM)(N:Nd)(T:Tm):Prop where
 one:one N=true
 lo:g.nid<lc N
 hi:lc N<=g'.nid
 wt:∀x∈g'.wt,x∈g.wt\/x∈tl N
 ex:f=0->ex N=T
def hH(c:cR)(g:bM)(b t:Nat)(X:Y8)(U:Us)(k f:Nat)(T:Tm)(row:Bool)(Q:KV):=∀q h r N a σ,Le g q U h X r->St c q b t r σ h->Va q h r N [a]->Sp k N T->Wn f g q N T->(row=true->iZ N=true)->Q (.ref a) σ
end
section
variable{c:cR}{g Y:bM}{b t d:Nat}{X J:Y8}{σ:Hp}{Q:KV}{l:Addr}{ns:Z9}{U T:Us}
theorem jb(k:ai c)(s:St c g (b+1) t X σ U)(v:Va g U X L ks)(M:Nat->Nd)(mk:(ka,.list (ks.map V.ref))∈X)(hs:∀{U n},U n=some (M n)->sub U L->sub U (M n))(h:old L->old (M (g.nid+1)))(u:tK (M (g.nid+1)))(hi:∀{X a n dx},At X a kind (.str "") ks fl n dx ka->fB X L ks->fB X (M n) [a])(ht:∀x∈tl (M (g.nid+1)),x∈g.wt)(i:∀{ty},jv ty L->jv ty (M (g.nid+1)))(q:∀T a p o,Le g g.nx U T X (p::X)->St c g.nx b t (p::X) o T->Va g.nx T (p::X) (M (g.nid+1)) [a]->Q (.ref a) o):ad (aa l ns) (d+4) 1255 [.ref c.w,nV kind,.str "",.ref ka,nV fl] σ Q:=
 nE k s (some (M (g.nid+1))) mk λT a dx p o le st B at_=>q T a p o le st ⟨hs (B _ rfl) (cG le.up v.sub),h v.old,u,hi at_ (fT le.mem _ v.is),ht,i v.rf⟩
theorem FE(I:ai c){i how f:Nat}(hi:i<15)(hf:f=0->how≠0)(s:St c g (b+8) t X σ U)(q:hH c g b t X U 1 f (.leaf i) false Q):ad (aa l ns) (d+6) 1262 [.ref c.w,nV i,nV how] σ Q:=by
 refine(RA (i=10/\how=0)).elim (λh=>?_) λh=>?_
 ·obtain⟨rfl,rfl⟩:=h;refine ah (F:=lQ) rfl rfl (ag (a:=10) (b:=10) (db (x:=true) (y:=true) (λø k=>ag (a:=0) (b:=0) k) (aq (pB (i:=3) (how:=7) (d:=d) (b:=b+5) I dD (λø=>by decide) s λg1 U1 X1 A n1 Wa C s1 w1 lo1 Z3 u1 vk=>pB (i:=2) (how:=7) (d:=d) (b:=b+2) I dD (λø=>by decide) s1 λM L X2 m n2 ab j s2 w2 lo2 V4 u2 YT G N=>?_))));have v:Va M L ((G,.list ([A,m].map V.ref))::X2) (.cons (.leaf n1 3) (.cons (.leaf n2 2) .nil)) [A,m]:=⟨⟨j.up _ _ u1,u2,trivial⟩,⟨trivial,trivial,trivial⟩,⟨trivial,trivial,trivial⟩,⟨A,[m],rfl,(fT (j.trans (.new (p:=(G,.list ([A,m].map V.ref))))).mem _ vk),m,[],rfl,(fT (Le.new (g:=M) (U:=L) (p:=(G,O.list ([A,m].map V.ref)))).mem _ YT),rfl⟩,bP,trivial,trivial,trivial⟩;exact jb (kind:=83) (fl:=0) (d:=d+1) I ((s2.dec (b':=b+1) (Qt _)).new (o:=.list ([A,m].map V.ref)) N) v (λn=>.uni n (.cons (.leaf n1 3) (.cons (.leaf n2 2) .nil))) (.head _) (λh s=>⟨h,s⟩) (λo=>⟨eg (Qq (ID Z3 j.nid)) (eg (Qq V4) (bP)),o⟩) ⟨⟨rfl,P6 rfl⟩,P6 rfl,v.ok,eg rfl (eg rfl (bP))⟩ (λat_ is Z z=>z _ _ _ at_ is) (bP) (λr=>r) λT a p B le st va=>q _ T _ _ a B (((C.trans j).trans .new:Le g M U L X ((G,.list ([A,m].map V.ref))::X2)).trans le) st va .bool ⟨rfl,Qq (C.trans j).nid,PD _,λx hx=>.inl (sB w1 (sB w2 hx)),λz=>VC rfl (hf z)⟩ λh=>VC h PC
 exact pB (d:=d+1) I hi (λe z=>h ⟨e,z⟩) (s.dec (P8 (by decide:3<=8) b)) λY T J a n B le st w lo hi u is=>q Y T J (.leaf n i) a B le (st.dec (PD _)) ⟨u,trivial,trivial,is,bP,trivial⟩ .leaf ⟨rfl,lo,hi,λx hx=>.inl (sB w hx),λø=>rfl⟩ λh=>VC h PC
end
noncomputable def pT(u:Bool)(n:Nat)(L:Nd):Nd:=bif u then .uni n L else .int n L
noncomputable def vx(u:Bool)(L:Tm):Tm:=bif u then .uni L else .int L
def sw(u:Bool)(R:List Row)(k:List bC):bC:=bif u then aC R (bB k) else aC R λp=>bB k p/\∀S∈k,∃q,S q/\le R p q
theorem yq:(aT R (vx u L)).s r=sw u R (aT R L).k:=by induction u<;>rfl
theorem Di:ex (pT u n L)=vx u (ex L):=by induction u<;>rfl
section
variable{R:List Row}{u:Bool}{k k':List bC}{S:bC}
theorem vA(h:∀S,S∈k↔S∈k'):bB k=bB k':=funext λp=>QR ⟨λ⟨S,m,z⟩=>⟨S,(h S).mp m,z⟩,λ⟨S,m,z⟩=>⟨S,(h S).mpr m,z⟩⟩
theorem HB(h:∀S,S∈k↔S∈k'):sw u R k=sw u R k':=by
 unfold sw;refine rR (vA h) ?_;induction u
 ·show aC R (λp=>bB k' p/\∀S∈k,∃q,S q/\le R p q)=aC R (λp=>bB k' p/\∀S∈k',∃q,S q/\le R p q);exact PR (aC R) (funext λp=>QR (Rx λa=>Vj λS=>imp_congr (h S) Ul))
 rfl
def M8(u:Bool)(R:List Row)(k:List bC):Prop:=u=false->∀S∈k,(∀p,S p->hG R p)/\aC R S=S
theorem GK(h:∀S,S∈k↔S∈k'):AM R k=AM R k':=funext λp=>QR (by unfold AM;exact rR (vA h) (Rx λa=>⟨λz S N=>z S ((h S).mpr N),λz S N=>z S ((h S).mp N)⟩))
theorem EK(w:WF R)(a:M8 false R k)(n:k≠[]):sw false R k=aC R (AM R k):=by refine rR (Eh w (λS N=>(a rfl S N).1) n) ?_;rfl
theorem Iq(w:WF R)(a:M8 u R k)(N:S∈k):sw u R [S,sw u R k]=sw u R k:=by
 induction u
 ·have n:k≠[]:=λz=>VC (sB z N) PH;have e:∀p,sw false R k p->hG R p:=λp h=>let ⟨T,U,z⟩:=h.2.1.1;(a rfl T U).1 p z
  refine rR (EK w (λb=>eg (a rfl S N) (eg ⟨e,(iI (S:=λp=>bB k p/\∀S∈k,∃q,S q/\le R p q) w:aC R (sw false R k)=sw false R k)⟩ (bP))) (λz=>nomatch z)) ?_;have st:=tO (l:=k) (S:=S) w λT U=>by
   have z:=(P3.mp U).elim (a rfl T) λm=>by exact rR (PG.mp m) (a rfl S N)
   exact⟨z.1,λG p v=>((RT z.2 p).mpr v).1 G⟩
  replace st:=(GK (k:=k++[S]) (k':=k) λT=>P3.trans ⟨λh=>h.elim id λm=>by refine(Qe (PG.mp m))▸?_;exact N,.inl⟩)▸st;replace st:=(Qe (EK w a n))▸st;have key:AM R [S,sw false R k]=MS R (sw false R k) S:=funext λp=>QR ⟨λc=>dQ c λh lo=>?_,λh=>?_⟩
  ·exact rR key st
  ·refine am (lo S (.head _)) λq d lq=>?_;refine am (lo _ (.tail _ (.head _))) λB C o=>?_;rcases h with rfl|⟨T,U,z⟩
   ·cases ug w (e B C) o;exact .inl ⟨C,q,d,lq⟩
   rcases P0.mp U with rfl|U
   ·exact .inr ⟨z,B,C,o⟩
   exact(Qe (PG.mp U))▸(.inl ⟨z,q,d,lq⟩)
  rcases h with ⟨v,q,d,lq⟩|⟨v,q,d,lq⟩
  ·exact⟨.inr ⟨_,.tail _ (.head _),v⟩,eg ⟨q,d,lq⟩ (eg ⟨p,v,le_refl (e p v)⟩ (bP))⟩
  exact⟨.inr ⟨_,.head _,v⟩,eg ⟨p,v,le_refl ((a rfl S N).1 p v)⟩ (eg ⟨q,d,lq⟩ (bP))⟩
 show aC R (bB [S,aC R (bB k)])=aC R (bB k);refine rR zM (rR (show(λp=>S p\/aC R (bB k) p)=λp=>aC R (bB k) p\/S p from funext λp=>QR or_comm) ?_);exact rR (DE w) (PR _ (funext λp=>QR ⟨λh=>h.elim id λh=>⟨S,N,h⟩,.inl⟩))
theorem JC(w:WF R)(a:M8 u R k)(n:k≠[])(N:S=if u=true thenλb=>False elseλp=>p=1):sw u R (k++[S])=sw u R k:=by
 induction u
 ·have e:S=λp=>p=1:=N;refine(Qe e)▸?_;have i:aC R (λp=>p=1)=λp=>p=1:=funext λp=>QR ⟨λh=>h.2.1,λh=>by subst h;exact⟨λb=>rfl,rfl,Ea w⟩⟩;refine rR (EK w (λb=>bh (P:=λS=>(∀p,S p->hG R p)/\aC R S=S) (a rfl) ⟨λp h=>(h:p=1)▸(AZ w:hG R 1),i⟩) (λz=>VC (UJ.mp z).2 (λz=>nomatch z))) (rR (EK w a n) (PR (aC R) (funext λp=>QR ⟨λo=>by have h:=o.1;have lo:=o.2;exact⟨h.elim .inl λB=>am B λT U z=>(P3.mp U).elim (λm=>.inr ⟨T,m,z⟩) λm=>by cases PG.mp m;exact .inl z,λT U=>lo T (PZ _ U)⟩,λv=>dQ v λh lo=>?_⟩)));have Q:hG R p:=h.elim (λe=>e▸(AZ w:hG R 1)) λq=>by exact am q λT U z=>(a rfl T U).1 p z
  exact⟨h.imp_right λx=>by exact am x λT U z=>⟨T,PZ _ U,z⟩,bh lo (aK 1 rfl (nt w Q))⟩
 have e:S=λb=>False:=N;subst e;exact PR (aC R) (funext λp=>QR ⟨λj=>by exact am j λT U z=>(P3.mp U).elim (λm=>⟨T,m,z⟩) λm=>by cases PG.mp m;exact z.elim,λ⟨T,U,z⟩=>⟨T,PZ _ U,z⟩⟩)
end
section
variable{L A B:List Nd}{m:Nat}{R:List Row}
theorem tZ:∀{L:List Nd},pb (ex (bL L))=(L.map λN=>pb (ex N)).sum:=by
 intro l;induction l with
 |nil=>exact rfl
 |cons a L ih=>exact PR (pb (ex a)+ ·) ih
theorem u8:∀{L:List Nd},co (bL L)=(L.map co).sum:=by
 intro l;induction l with
 |nil=>exact rfl
 |cons a L ih=>exact PR (co a+ ·) ih
theorem pP:∀{L:List Nd},(∀N∈L,lv N<=m)->lv (bL L)<=m:=by
 intro l;induction l with
 |nil=>intro _;exact PY _
 |cons a L ih=>intro h;exact RH.mpr ⟨h a (.head _),ih λN I=>h N (.tail _ I)⟩
theorem uF:∀{L:List Nd},(∀N∈L,fu N<=m)->fu (bL L)<=m:=by
 intro l;induction l with
 |nil=>intro _;exact PY _
 |cons a L ih=>intro h;exact RH.mpr ⟨h a (.head _),ih λN I=>h N (.tail _ I)⟩
theorem xQ:∀{L:List Nd},bu (ex (bL L))=L.all λN=>bu (ex N):=by
 intro l;induction l with
 |nil=>exact rfl
 |cons a L ih=>exact PR (bu (ex a)&& ·) ih
def dn(R:List Row)(N:Nd):bC:=(aT R (ex N)).s 0
theorem Ek:∀{L:List Nd},(aT R (ex (bL L))).k=L.map (dn R):=by
 intro l;induction l with
 |nil=>exact rfl
 |cons a L ih=>exact PR (dn R a:: ·) ih
noncomputable def Ew:List Nd->Tm->Prop
 |[],T=>T=.nil
 |N::Ns,T=>∃a r,T=.cons a r/\Sp 0 N a/\Ew Ns r
theorem Ew.all:∀{Ns:List Nd}{T:Tm},Ew Ns T->(∀R,WF R->Ns.map (dn R)=(aT R T).k)/\((Ns.map λN=>pb (ex N)).sum<=(me T).1.p/\(∀N∈Ns,lv N<=3*(me T).1.h/\fu N<=44*(me T).1.h)/\(Ns.map co).sum<=(me T).1.s)/\Ns.all (λN=>bu (ex N))=bu T/\∀N r,Ns=N::r->pb (ex N)<=(me T).2.p/\co N<=(me T).2.s:=by
 intro l;induction l with
 |nil=>intro _ e;exact rR e ⟨λb b=>rfl,⟨PD _,bP,PD _⟩,rfl,λN r e=>nomatch e⟩
 |cons N Ns ih=>
  intro _ h;refine i5 (h) λa r Q=>?_;obtain⟨rfl,s,h⟩:=Q;have t:=ih h;refine⟨λR w=>congr (PR List.cons (s.s R w 0)) (t.1 R w),⟨Qu s.p t.2.1.1,eg ⟨ID s.lv (QC _ (QY ..)),ID s.fu (QC _ (QY ..))⟩ (λM k=>⟨ID (t.2.1.2.1 M k).1 (QC _ (Rd ..)),ID (t.2.1.2.1 M k).2 (QC _ (Rd ..))⟩),?_⟩,?_,λM G e=>by cases e;exact⟨s.p,s.co⟩⟩
  ·have sc:Internal.co N<=(me a).1.s:=s.co;show Internal.co N+(Ns.map Internal.co).sum<=(me a).1.s+(me r).1.s;exact lq (aO t.2.1.2.2 sc)
  refine rR List.all_cons (rR t.2.2.1 (rR s.fl ?_));rfl
structure Qk(u:Bool)(Qs:List Nd)(T:Tm):Prop where
 k:∀R,WF R->sw u R (Qs.map (dn R))=sw u R (aT R T).k
 p:(Qs.map λN=>pb (ex N)).sum<=(me T).1.p+(me T).2.p+(bif u then 1 else 13)
 m:∀N∈Qs,lv N<=3*(me T).1.h+1/\fu N<=44*(me T).1.h+20
 co:(Qs.map Internal.co).sum<=(me T).1.s+(me T).2.s+(bif u then 5 else 105)
 fl:Qs.all (λN=>bu (ex N))=bu T
theorem Qk.perm(s:Ew Ns T)(p:Qs.Perm Ns):Qk u Qs T:=by
 have k:=s.all.1;have pp:=s.all.2.1.1;have m:=s.all.2.1.2.1;have co:=s.all.2.1.2.2;have f:=s.all.2.2.1;refine⟨λR w=>?_,ID (PI (p.map _).sum_nat) (ID pp (ID (PM _ _) (PM _ _))),λN I=>?_,ID (PI (p.map _).sum_nat) (ID co (ID (PM _ _) (PM _ _))),?_⟩
 ·exact sB (k R w) (HB λS=>(p.map _).mem_iff)
 ·have z:=m N (p.mem_iff.mp I);exact⟨QI z.1,ID z.2 (PM _ _)⟩
 exact sB f p.all_eq
end
theorem Qk.sp(q:Qk u Qs T)(i:u=false->bu T=true):Sp 1 (pT u n (bL Qs)) (vx u T):=by
 have s:∀R,WF R->∀r,(aT R (ex (pT u n (bL Qs)))).s r=(aT R (vx u T)).s r:=λR w r=>by simp only[Di,yq,yq,Ek,q.k R w]
 have f:bu (ex (bL Qs))=bu T:=xQ.trans q.fl;have lv:=pP λN I=>(q.m N I).1;have fu:=uF λN I=>(q.m N I).2;have co:=u8 (L:=Qs)▸q.co;induction u
 ·refine⟨s,λh=>VC h PC,rfl,f,rfl,?_,PD _,PD _,?_,?_,?_⟩
  ·show(if bu (ex (bL Qs)) then 13 else _)<=13;refine rR f (rR (i rfl) ?_);exact PD _
  ·show(Internal.lv (bL Qs)+1)+1<=3*((me T).1.h+1);exact lq lv
  ·show(Internal.fu (bL Qs)+20)+4*1<=44*((me T).1.h+1);exact lq fu
  have co:Internal.co (bL Qs)<=(me T).1.s+(me T).2.s+105:=co;show(Internal.co (bL Qs)+102)+1<=(me T).1.s+(me T).2.s+208;exact lq co
 refine⟨s,λh=>VC h PC,rfl,f,rfl,(tZ (L:=Qs)▸q.p),PD _,PD _,?_,?_,?_⟩
 ·show(Internal.lv (bL Qs)+1)+1<=3*((me T).1.h+1);exact lq lv
 ·show(Internal.fu (bL Qs)+8)+4*1<=44*((me T).1.h+1);exact lq fu
 have co:Internal.co (bL Qs)<=(me T).1.s+(me T).2.s+5:=co;show(Internal.co (bL Qs)+2)+1<=(me T).1.s+(me T).2.s+8;exact lq co
section
variable{R:List Row}{u:Bool}
theorem BK(w:WF R):∀{T:Tm},bu T=true->∀S∈(aT R T).k,(∀p,S p->hG R p)/\aC R S=S
 |.cons a r,h=>eg ⟨λp v=>eA ((dX (vB h).1).1 p v) λx i j e=>⟨x,qZ j,e⟩,m5 w⟩ (BK w (T:=r) (vB h).2)
 |.nil,_=>bP
 |.leaf _,_=>bP
 |.uni _,_=>bP
 |.int _,_=>bP
 |.arr _,_=>bP
 |.tup _,_=>bP
 |.ro _,_=>bP
 |.el _ _,_=>bP
theorem Mp:dn R (pT u n (bL L))=sw u R (L.map (dn R)):=by show(aT R (ex (pT u n (bL L)))).s 0=_;exact rR Di (rR yq (rR Ek rfl))
theorem Qk.nest(s:Ew Ns (.cons a r))(p:rot.Perm Ns)(i:u=false->bu (.cons a r)=true)(Q:Sp 0 N1 a)(v:Qs.Perm [N1,pT u n (bL rot)]):Qk u Qs (.cons a r):=by
 have k:=s.all.1;have pp:=s.all.2.1.1;have m:=s.all.2.1.2.1;have co:=s.all.2.1.2.2;have f:=s.all.2.2.1;have fr:bu (ex (bL rot))=bu (.cons a r):=xQ.trans (Qk.perm (u:=u) s p).fl;have fN:bu (ex (pT u n (bL rot)))=bu (.cons a r):=by induction u<;>exact fr
 refine⟨λR w=>?_,ID (PI (v.map _).sum_nat) ?_,λN I=>?_,ID (PI (v.map _).sum_nat) ?_,v.all_eq.trans ?_⟩
 ·have e:sw u R (Qs.map (dn R))=sw u R [dn R N1,sw u R (aT R (.cons a r)).k]:=HB λS=>((v.map (dn R)).mem_iff).trans (by
   show S∈[dn R N1,dn R (pT u n (bL rot))]↔_;rw[Mp,(Qk.perm (u:=u) s p).k R w])
  rw[e];refine Iq w (λz=>BK w (i z)) ?_;simp only[show dn R N1=(aT R a).s 0 from Q.s R w 0];exact .head _
 ·have z:pb (ex (pT u n (bL rot)))<=(me (.cons a r)).1.p+(bif u then 1 else 13):=by
   induction u
   ·exact ID (PI (show(if bu (ex (bL rot))=true then 13 else _)=13 by rw[fr,i rfl];rfl)) (Qp _ _)
   ·exact ID (PI tZ) (ID (PI (p.map _).sum_nat) (ID pp (PM _ _)))
  have o:pb (ex N1)<=(me (.cons a r)).2.p:=Q.p;show pb (ex N1)+(pb (ex (pT u n (bL rot)))+0)<=_;exact lq (aO z o)
 ·rcases P0.mp (v.mem_iff.mp I) with rfl|I
  ·exact⟨QI (ID Q.lv (QC _ (QY ..))),ID Q.fu (ID (QC _ (QY ..)) (PM _ _))⟩
  rw[PG.mp I];have f:fu (bL rot)<=44*(me (.cons a r)).1.h:=uF λN I=>(m N (p.mem_iff.mp I)).2;induction u
  ·exact⟨Qn (pP λN I=>(m N (p.mem_iff.mp I)).1:lv (bL rot)<=3*(me (.cons a r)).1.h),PX f 20⟩
  exact⟨Qn (pP λN I=>(m N (p.mem_iff.mp I)).1:lv (bL rot)<=3*(me (.cons a r)).1.h),ID (PX f 8) (P8 dD _)⟩
 ·have c:Internal.co (bL rot)<=(me (.cons a r)).1.s:=ID (PI (u8.trans (p.map _).sum_nat)) co;have c1:Internal.co N1<=(me (.cons a r)).2.s:=Q.co;have d:Internal.co (pT u n (bL rot))<=Internal.co (bL rot)+(bif u then 5 else 105):=by cases u;exact P8 dD _;exact P8 dD _
  show Internal.co N1+(Internal.co (pT u n (bL rot))+0)<=_;exact lq (aO c (aO c1 d))
 show(bu (ex N1)&&(bu (ex (pT u n (bL rot)))&&true))=_;rw[fN,Q.fl];show(bu a&&((bu a&&bu r)&&true))=(bu a&&bu r);cases bu a<;>cases bu r<;>rfl
theorem Qk.more(s:Ew Ns T)(g:T≠.nil)(i:u=false->bu T=true):Qk u (Ns++[.leaf n (if u=true then 14 else 13)]) T:=by
 have k:=s.all.1;have pp:=s.all.2.1.1;have m:=s.all.2.1.2.1;have co:=s.all.2.1.2.2;have f:=s.all.2.2.1;have A:∀{f:Nd->Nat},((Ns++[Nd.leaf n (if u=true then 14 else 13)]).map f).sum=(Ns.map f).sum+f (Nd.leaf n (if u=true then 14 else 13)):=λ{f}=>by refine rR PU (rR RC ?_);rfl
 refine⟨λR w=>?_,?_,λN I=>?_,?_,?_⟩
 ·refine rR PU (rR (k R w) ?_);have o:(aT R T).k≠[]:=by
   refine sB (k R w) ?_;induction Ns with
   |nil=>exact VC s g
   |cons N r=>exactλz=>nomatch z
  refine JC (u:=u) w (λz=>BK w (i z)) o ?_;induction u
  ·show(λp=>∃r∈jc 13,R[p]?=some r)=λp=>p=1;exact funext λp=>QR ⟨λq=>am (q) λr l e=>w.uniq ((Qe (PG.mp (show r∈[Row.key "unknown"] from l)))▸e) (w.get (t:=1) rfl),λh=>(aK _ (.head _) (h▸w.get (t:=1) rfl))⟩
  show(λp=>∃r∈jc 14,R[p]?=some r)=λa=>False;exact funext λp=>QR ⟨λv=>am (v) λr j e=>VC j PH,False.elim⟩
 ·refine rR A ?_;have z:pb (ex (Nd.leaf n (if u=true then 14 else 13)))<=(bif u then 1 else 13):=by cases u<;>exact P6 rfl
  exact lq (aO pp z)
 ·rcases P3.mp I with I|I
  ·exact⟨QI (m N I).1,ID (m N I).2 (PM _ _)⟩
  exact rR (PG.mp I) ⟨Qp _ _,ID (by decide:8<=20) (Qp _ _)⟩
 ·refine rR A ?_;have z:Internal.co (Nd.leaf n (if u=true then 14 else 13))<=(bif u then 5 else 105):=by cases u<;>exact P6 rfl
  exact lq (aO co z)
 refine rR List.all_append (rR f ?_);exact TJ _
end
noncomputable def oo:Tm->Prop
 |.cons a r=>oo a/\oo r|.uni l=>l≠.nil/\(me l).1.p+(me l).2.p+1<64/\(aF l).length<=90/\oo l|.int l=>l≠.nil/\(me l).1.p+(me l).2.p+13<64/\(aF l).length<=90/\oo l
 |.arr t=>(me t).1.p<64/\oo t|.tup l=>(me l).1.e<64/\(aF l).length<=60/\oo l|.ro t=>(me t).1.e<64/\(me t).1.p<64/\(Ky t=true\/GW t=true)/\oo t|.el _ t=>oo t|_=>True
def gg(c:cR)(l:Addr)(ns:Z9)(f:Nat)(T:Tm):=∀⦃D g b t X σ U Q v⦄,60*(me T).1.h+20<=D->g4 T->oo T->St c g (b+(me T).1.b) (t+(me T).1.t) X σ U->g.deep+3*(me T).1.h<=60->bS X T [v]->hH c g b t X U 0 f T false Q->ad (aa l ns) D 1298 [.ref c.w,v,nV f] σ Q
def fq(c:cR)(l:Addr)(ns:Z9)(f:Nat)(T:Tm):=∀⦃D g b t X σ U Q v⦄,60*(me T).1.h+15<=D->g4 T->oo T->St c g (b+(me T).1.b) (t+(me T).1.t) X σ U->g.deep+3*(me T).1.h<=60->bS X T [v]->hH c g (b+(me T).1.s+10) t X U 1 f T (Ky T) Q->ad (aa l ns) D 1291 [.ref c.w,v,nV f] σ Q
section
variable{c:cR}{g J:bM}{b d:Nat}{X I:Y8}{σ:Hp}{Q:KV}{ns:Z9}
section
variable{t f:Nat}{l:Addr}{U Y:Us}
structure Ls(f:Nat)(g0 g:bM)(U:Us)(X:Y8)(ps:List (Nd×Addr))(T:Tm):Prop where
 sp:Ew (ps.map (·.1)) T
 va:∀p∈ps,Va g U X p.1 [p.2]/\one p.1=true/\lc p.1<=g.nid
 wt:∀x∈g.wt,x∈g0.wt\/∃p∈ps,x∈tl p.1
 ex:f=0->ps.map (λp=>ex p.1)=aF T
theorem zm{s:List Tm}{r:List Tm}:(me (toT (x::r))).1.b=(me x).1.b+(me (toT r)).1.b/\(me (toT (x::r))).1.t=(me x).1.t+(me (toT r)).1.t:=⟨rfl,rfl⟩
theorem BL{Ns:List Nd}{N:Nd}(h:Ew Ns (toT ts))(s:Sp 0 N T):Ew (Ns++[N]) (toT (ts++[T])):=by
 induction Ns generalizing ts with
 |nil=>cases ts with
  |nil=>exact⟨_,_,rfl,s,rfl⟩
  |cons=>exact nomatch h
 |cons n Ns ih=>cases ts with
  |nil=>exact i5 h λ_ _ e=>nomatch e.1
  |cons t ts=>exact dg h λa r e z h=>by cases e;exact⟨_,_,rfl,z,ih h⟩
theorem As{x L:Tm}(h:x∈aF L)(o:oo L):oo x:=sD (P:=oo) (λa a h=>h) h o
theorem vc{x:Tm}:∀{L:Tm},x∈aF L->(me x).1.h<=(me L).1.h
 |.cons a r,h=>(P0.mp h).elim (λe=>sB e (QY ..)) λh=>ID (vc h) (Rd ..)
 |.nil,h=>VC h PH
 |.leaf _,h=>VC h PH
 |.uni _,h=>VC h PH
 |.int _,h=>VC h PH
 |.arr _,h=>VC h PH
 |.ro _,h=>VC h PH
 |.tup _,h=>VC h PH
 |.el _ _,h=>VC h PH
theorem DJ{L:Tm}{K:Addr}{D:Nat}(hw:∀x∈aF L,gg c l ns f x)(hD:60*(me L).1.h+20<=D)(ok:g4 L)(om:oo L)(il:jm L=true)(ll:(aF L).length<=90)(s:St c g (b+(me L).1.b) (t+(me L).1.t) X σ U)(hd:g.deep+3*(me L).1.h<=60)(mk:(K,O.list us)∈X)(is:bS X L us)(q:∀J Y I ps w,Le g J U Y X I->St c J b t I w Y->Ls f g J Y I ps L->alloc (.list (ps.map λp=>V.ref p.2)) w Q):
  iA (cP (aa l ns) (ad (aa l ns) D) mY) (.one 6) (Bv (aa l ns) (ad (aa l ns) D) .nil) [some (.ref c.w),some kv,some (.ref K),some hv,some (nV f),none,none] Q (.ref K) σ:=by
 refine PO (nJ il is) λxs v=>EG (v) λu e2 hx _=>?_;subst u
 have eL:toT (xs.map (·.1))=L:=sB e2 (kc il)
 refine oM (f:=λp:Tm×V=>p.2) (.list (s.h.loc mk)) (ID (PI ((PL _).symm.trans (PR List.length e2.symm))) (ID ll dD))
  (λst acc σ=>∀Z:Prop,(∀n M A ps,acc=ps.map (λp=>V.ref p.2)->Le g n U M X A->St c n (b+(me (toT ((xs.drop st.length).map (·.1)))).1.b) (t+(me (toT ((xs.drop st.length).map (·.1)))).1.t) A σ M->Ls f g n M A ps (toT (st.map (·.1)))->Z)->Z)
  (λZ z=>z g U X [] rfl .refl (by refine rR SK (rR Tx (rR eL ?_));exact s) ⟨rfl,bP,λx h=>.inl h,λø=>rfl⟩) (λst x r e R acc hR σ i=>i _ λn M A ps C le j ls=>?_) λacc σ i=>i _ λn M A ps C le j ls=>?_
 ·have o:=hx x (rR e (PK _ (.head _)));simp only[(rR e (rR RS rfl):xs.drop st.length=x::r),QG,(zm (s:=[])).1,(zm (s:=[])).2,RP (me x.1).1.b,RP (me x.1).1.t,<-QH,<-QH] at j;refine⟨.list (j.h.loc (le.mem _ mk)),hw x.1 o.1 (ID (PX (QC 60 (vc o.1)) 20) hD) (sD (P:=g4) (λø ø h=>h) o.1 ok) (As o.1 om) j (ID (Qu (PI le.deep) (QC 3 (vc o.1))) hd) (aV le.mem o.2) λG U2 X2 N a ab T s2 va sp B ø=>hR _ _ λZ z=>z G U2 X2 (ps++[(N,a)]) ?_ (le.trans T) (by simp only[((PR (List.drop (st++[x]).length) (e.trans (R8 st x r))).trans RS)];exact s2) ⟨?_,?_,λy hy=>?_,λh=>?_⟩⟩
  ·refine rR C (rR PU ?_);rfl
  ·simp only[PU,PU];exact BL ls.sp sp
  ·exact bh (P:=λp:Nd×Addr=>Va G U2 X2 p.1 [p.2]/\one p.1=true/\lc p.1<=G.nid) (λp hp=>have z:=ls.va p hp;⟨z.1.mono T,z.2.1,ID z.2.2 T.nid⟩) ⟨va,B.one,B.hi⟩
  ·exact(B.wt y hy).elim (λm=>(ls.wt y m).imp_right λz1=>am (z1) λp k z=>(aK p (PZ _ k) z)) λm=>.inr (aK (N,a) (PK _ (.head _)) m)
  have z:=ls.ex h;have lt:∀L:List Tm,aF (toT L)=L:=λL=>by
   induction L with
   |nil=>rfl
   |cons a L ih=>exact PR (a:: ·) ih
  simp only[lt] at z⊢;refine rR PU (rR PU (rR z (rR QG (rR (B.ex h) ?_))));rfl
 ·simp only[R9] at j;simp only[eL] at ls;exact⟨.list (j.h.loc (le.mem _ mk)),C▸q n M A ps σ le j ls⟩
end
section
variable{t f:Nat}{l:Addr}{U G:Us}{u:Bool}
mutual
noncomputable abbrev rf(p:Nd×Addr):V:=V.ref p.2
noncomputable abbrev cY(ps:List (Nd×Addr)):List Nd:=ps.map (·.1)
def zN(g:bM)(U:Us)(X:Y8)(ps:List (Nd×Addr)):=∀p∈ps,Va g U X p.1 [p.2]/\one p.1=true/\lc p.1<=g.nid
theorem uq:∀{ps:List (Nd×Addr)},(∀p∈ps,Va g U X p.1 [p.2])->Va g U X (bL (cY ps)) (ps.map (·.2)):=by
 intro m;induction m with
 |nil=>intro _;exact⟨trivial,trivial,trivial,rfl,bP,trivial⟩
 |cons p ps ih=>intro h;exact have a:=h p (.head _);have r:=ih λq e=>h q (.tail _ e);⟨⟨a.sub,r.sub⟩,⟨a.old,r.old⟩,⟨a.ok,r.ok⟩,⟨p.2,_,rfl,a.is,r.is⟩,λx i=>(P3.mp i).elim (a.tl x) (r.tl x),a.rf,r.rf⟩
theorem rP:∀{L:List Nd},x∈tl (bL L)↔∃N∈L,x∈tl N:=by
 intro n;induction n with
 |nil=>exact⟨λh=>VC h PH,λo=>am (o) λN h _=>VC h PH⟩
 |cons a L ih=>exact P3.trans ⟨λh=>h.elim (λz=>(aK a (.head _) z)) λz=>am (ih.mp z) λN m k=>(aK N (.tail _ m) k),λp=>am (p) λN m i=>(P0.mp m).imp (λe:N=a=>sB e i) λm=>ih.mpr (aK N m i)⟩
theorem Cr:tl (pT u n L)=tl L:=by induction u<;>rfl
theorem zj:lc (pT u n L)=n:=by induction u<;>rfl
theorem xK:one (pT u n L)=true:=by induction u<;>rfl
noncomputable def KG(u:Bool):Nat:=bif u then 83 else 84
theorem BF(k:ai c)(s:St c g (b+1) t X σ U)(C:zN g U X qs)(hl:qs.length<=100)(A:((cY qs).map λN=>pb (ex N)).sum<64)(hf:u=false->(cY qs).all (λN=>bu (ex N))=true/\qs≠[])(mk:(K,.list (qs.map rf))∈X)(q:∀G a p B,Le g g.nx U G X (p::X)->St c g.nx b t (p::X) B G->Va g.nx G (p::X) (pT u (g.nid+1) (bL (cY qs))) [a]->Q (.ref a) B):ad (aa l ns) (d+4) 1255 [.ref c.w,nV (KG u),.str "",.ref K,.int 0] σ Q:=by
 have v:=uq λp w=>(C p w).1
 have T:(K,O.list ((qs.map (·.2)).map V.ref))∈X:=by exact rR QA mk
 have le:(lst (bL (cY qs))).length<=100:=by simp only[dB,PL];exact hl
 have j:eH (bL (cY qs))=true:=n9 λx i=>am (P1.mp i) λp w e=>.inl (e▸(C p w).2.1)
 have m:∀x∈lst (bL (cY qs)),one x=true:=λx i=>by replace i:=dB▸i;exact am (P1.mp i) λp w y=>y▸((C p w).2.1)
 have Y:∀x∈lst (bL (cY qs)),lc x<g.nid+1:=λx i=>by replace i:=dB▸i;exact am (P1.mp i) λp w M=>(Qe M)▸(Qq (C p w).2.2)
 induction u
 ·have z:=hf rfl;have fl:bu (ex (bL (cY qs)))=true:=xQ.trans z.1;exact jb (kind:=84) (fl:=0) k s v (λn=>.int n (bL (cY qs))) T (λh s=>⟨h,s⟩) (λo=>⟨Y,o⟩) ⟨⟨j,le⟩,(tZ (L:=cY qs)▸A:pb (ex (bL (cY qs)))<64),v.ok,fl,(λe=>z.2 (by induction qs with|nil=>rfl|cons p r=>exact nomatch e)),m⟩ (λat_ is Z z=>z _ _ _ at_ is) v.tl (λr=>r) q
 ·exact jb (kind:=83) (fl:=0) k s v (λn=>.uni n (bL (cY qs))) T (λh s=>⟨h,s⟩) (λo=>⟨Y,o⟩) ⟨⟨j,le⟩,(tZ (L:=cY qs)▸A:pb (ex (bL (cY qs)))<64),v.ok,m⟩ (λat_ is Z z=>z _ _ _ at_ is) v.tl (λr=>r) q
theorem j9(k:ai c)(le:Le g J U G X I)(s:St c J (b+1) t I σ G)(A:zN J G I qs)(v:qs.length<=100)(y:Qk u (cY qs) T)(m:(me T).1.p+(me T).2.p+(bif u then 1 else 13)<64)(j:u=false->bu T=true)(ne:qs≠[])(mk:(K,.list (qs.map rf))∈I)(L:∀x∈J.wt,x∈g.wt\/∃p∈qs,x∈tl p.1)(i:f=0->vx u (ex (bL (cY qs)))=vx u T)(q:hH c g b t X U 1 f (vx u T) false Q):ad (aa l ns) (d+4) 1255 [.ref c.w,nV (KG u),.str "",.ref K,.int 0] σ Q:=
 BF k s A v (PJ y.p m) (λz=>⟨y.fl.trans (j z),ne⟩) mk λn a p o e st r=>q _ n _ _ a o (le.trans e) st r (y.sp j) ⟨xK,by refine(Qe zj)▸?_;exact Qq le.nid,by refine(Qe zj)▸?_;exact PD _,λx i=>(L x i).imp_right λw=>by refine am w λp Y z=>rR Cr ?_;exact rP.mpr (aK p.1 (P1.mpr (aK p Y rfl)) z),λz=>(Qe Di)▸(i z)⟩ λh=>VC h PC
theorem Jr(e:σ a=some (.list vs))(r:vs.length<=lim)(q:alloc (.list vs.reverse) σ Q):nX T (.ref a) .none .none Q (.int (-1)) σ:=by unfold nX;exact(Et vs _ (.list e) .rev r q)
theorem zN.mono(h:Le g J U G X I)(o:zN g U X qs):zN J G I qs:=λp v=>have z:=o p v;⟨z.1.mono h,z.2.1,ID z.2.2 h.nid⟩
theorem zN.sub(o:zN g U X ps)(h:∀p∈qs,p∈ps):zN g U X qs:=λp v=>o p (h p v)
theorem zN.snoc(o:zN g U X ps)(h:Va g U X N [a]/\one N=true/\lc N<=g.nid):zN g U X (ps++[(N,a)]):=λp v=>(P3.mp v).elim (o p) λm=>by exact rR (PG.mp m) h
noncomputable def rot{v:Type}(l:List v):List v:=l.drop 1++l.take 1
theorem bA{v:Type}{l:List v}:(rot l).Perm l:=List.perm_append_comm.trans (.of_eq (Rm 1 l))
theorem DF(r:qs.length<=100)(s:St c g b t X σ U)(w:(a,.list (qs.map rf))∈X)(m:get ρ 5=some (.ref a))(q:∀n v h p,St c g b t ((h,.list ((rot qs).map rf))::v::n::X) p U->Q (.ref h) p):nX T (.ref a) (.int 1) .none (Mk .Add (cP T C (.slice (.var 5) (.lit .none) (.lit (.int 1)) (.lit .none))) ρ Q) .none σ:=by
 have Y:(qs.map rf).length<=lim:=ID (PI (PL _)) (ID r dD)
 refine Hr (i:=1) (s.h.loc w) Y λx L=>(?_:Dz (get ρ 5) _)
 refine rR m (D1 (j:=1) ((s.new (o:=.list ((qs.map rf).drop 1)) L).h.loc (.tail _ w)) Y λy k=>da (.addl (((s.new (o:=.list ((qs.map rf).drop 1)) L).new (o:=.list ((qs.map rf).take 1)) k).h.loc (.tail _ (.head _))) (((s.new (o:=.list ((qs.map rf).drop 1)) L).new (o:=.list ((qs.map rf).take 1)) k).h.loc (.head _)) (ID (Qu (ID (rR Rr (TG _ _)) (ID (PI (PL _)) r:(qs.map rf).length<=100)) (ID (List.length_take_le' ..) (ID (PI (PL _)) r:(qs.map rf).length<=100))) dD) λh N=>?_))
 have e:(rot qs).map rf=(qs.map rf).drop 1++(qs.map rf).take 1:=by unfold rot;exact rR PU (rR Sv (rR R7 rfl))
 simp only[<-e]
 exact q _ _ h _ (((s.new (o:=.list ((qs.map rf).drop 1)) L).new (o:=.list ((qs.map rf).take 1)) k).new (o:=.list ((rot qs).map rf)) N)
theorem Ct(h:jm L=true)(n:L≠.nil):∃a r,L=.cons a r:=by
 induction L with
 |cons a r=>exact(vy a r rfl)
 |nil=>exact VC rfl n
 |_=>exact VC h PC
theorem DG:∀{L:List Nd},ex (bL L)=toT (L.map ex):=by
 intro m;induction m with
 |nil=>exact rfl
 |cons a L ih=>exact PR (Tm.cons (ex a)) ih
theorem zp:∀{Ns:List Nd}{T:Tm},Ew Ns T->Ns.length=(aF T).length
 |[],_,e=>by subst e;rfl
 |N::Ns,_,⟨a,r,e,_,h⟩=>by subst e;exact PR (· +1) (zp h)
theorem St.dt(s:St c g b t X σ U)(e:t'<=t):St c g b t' X σ U:=⟨⟨s.h.hs,s.h.bnd,ID (P8 e _) s.h.bw⟩,s.go,s.bd,s.nd,s.id⟩
theorem JZ(h:jc i=[.key "unknown"]\/jc i=[]):∀as,¬FK X i as
 |[k],e=>by
  induction (e:yx X i k) with
  |fls=>exact h.elim (λz=>nomatch z) λz=>nomatch z
  |tru=>exact h.elim (λz=>nomatch z) λz=>nomatch z
  |num=>exact h.elim (λz=>nomatch z) λz=>nomatch z
  |neg z=>exact h.elim (λy=>nomatch z.symm.trans y) λy=>nomatch z.symm.trans y
  |str z=>exact h.elim (λy=>nomatch z.symm.trans y) λy=>nomatch z.symm.trans y
theorem AP(q:vs≠[])(is:fB (Y++(a1,O.list vs)::X1) (.leaf n (if u=true then 14 else 13)) [a]):fB (Y++X1) (.leaf n (if u=true then 14 else 13)) [a]:=by
 have drop:∀{p:Addr×O},p∈Y++(a1,O.list vs)::X1->p.2≠.list vs->p∈Y++X1:=λh n=>(P3.mp h).elim (PZ _) λm=>(P0.mp m).elim (λe=>VC (rR e rfl) n) λm=>PK _ m;rcases is with e|e
 ·exact .inl λZ z=>e _ λw t dx i m at_=>z w t dx i m ⟨drop at_.nd (λh=>nomatch h),drop at_.ks λh=>q (by cases h;rfl)⟩
 exact e _ λks dx i at_ lt=>VC lt (JZ (by induction u;exact .inl rfl;exact .inr rfl) ks)
theorem Ka(ck:ai c){us:Z7}{D how:Nat}(hw:∀x∈aF L,gg c l ns f x)(hD:60*(me L).1.h+20<=D)(lf:g4 L)(om:oo L)(il:jm L=true)(nn:L≠.nil)(ll:(aF L).length<=90)(pm:(me L).1.p+(me L).2.p+(bif u then 1 else 13)<64)(C:u=false->bu L=true)(fh:f=0->how=7)(s:St c g (b+20+(me L).2.b+(me L).1.b) (t+(me L).2.t+(me L).1.t) X σ U)(hd:g.deep+3*(me L).1.h<=60)(mk:(K,O.list us)∈X)(is:bS X L us)(q:hH c g b t X U 1 f (vx u L) false Q):ad (aa l ns) (D+1) 1267 [.ref c.w,nV (KG u),.ref K,nV how,nV f] σ Q:=by
 refine i5 (Ct il nn) λa r W4=>?_;subst W4
 obtain⟨D',rfl⟩:=zb (n:=D) (k:=10) (lq hD)
 refine ah (F:=qU) rfl rfl (DJ hw hD lf om il ll s hd mk is λy U1 X1 ps Wa bg s1 ls a1 X4=>?_)
 have s2:=s1.new (o:=.list (ps.map rf)) X4
 have T:=bg.trans (.new (p:=(a1,O.list (ps.map rf))))
 have va:=zN.mono (.new (p:=(a1,O.list (ps.map rf)))) (ls.va:zN y U1 X1 ps)
 have hl:ps.length<=90:=ID (PI ((PL _).symm.trans (zp ls.sp))) ll
 have ne:ps≠[]:=λz=>by subst z;exact nomatch ls.sp
 have pl:(ps.map rf).length<=lim:=ID (PI (PL _)) (ID hl dD)
 have wt:∀{J:bM}{qs:List (Nd×Addr)},J.wt=y.wt->(∀p∈ps,p∈qs)->∀x∈J.wt,x∈g.wt\/∃p∈qs,x∈tl p.1:=λe h x hx=>(ls.wt x (sB e hx)).imp_right λz1=>by exact am z1 λp v z=>(aK p (h p v) z)
 have M:∀{P:Prop},how≠7->f=0->P:=λh z=>VC (fh z) h
 refine ag (b:=0) (az (λe=>kr (Jr (s2.h.loc (.head _)) pl λa2 h2=>?_)) λn0=>ag (b:=1) (az (λe=>DF (ID hl dD) s2 (.head _) rfl λp1 p2 w Xa B=>?_) λn1=>ag (b:=2) (az (λe=>?_) λn2=>ag (b:=3) (az (λe=>?_) λn3=>ag (b:=4) (az (λe=>?_) λn4=>?_)))))
 ·refine sB List.map_reverse ?_;have B:=s2.new (o:=.list (ps.reverse.map rf)) h2;exact j9 (d:=D'+6) ck (T.trans .new) ((B.dec (b':=b+1) dA).dt (PM _ _)) ((va.sub λp v=>List.mem_reverse.mp v).mono .new) (ID (PI List.length_reverse) (ID hl dD)) (Qk.perm ls.sp ((List.reverse_perm ps).map _)) pm C (λz=>ne (List.reverse_eq_nil_iff.mp z)) (.head _) (wt rfl λp v=>List.mem_reverse.mpr v) (M (λz=>BE (aO (fW e) (mO z)))) q
 ·exact j9 (d:=D'+6) ck (T.trans ((Le.new.trans .new).trans .new)) ((B.dec (b':=b+1) dA).dt (PM _ _)) ((va.sub λp v=>bA.mem_iff.mp v).mono ((Le.new.trans .new).trans .new)) (ID (PI bA.length_eq) (ID hl dD)) (Qk.perm ls.sp (bA.map _)) pm C (λz=>ne (UB (sB z bA.symm))) (.head _) (wt rfl λp v=>bA.mem_iff.mpr v) (M (λz=>BE (aO (fW e) (mO z)))) q
 ·induction ps with
  |nil=>exact VC rfl ne
  |cons p0 ps=>refine cm (i:=0) (s2.h.loc (.head _)) dD rfl (DF (ID hl dD) s2 (.head _) rfl λp1 p2 w Xa B=>?_);have j:=T.trans (((Le.new (g:=y) (U:=U1) (p:=p1)).trans (.new (p:=p2))).trans (.new (p:=(w,O.list ((rot (p0::ps)).map rf)))));have YU:=va.mono (((Le.new (g:=y) (U:=U1) (p:=p1)).trans (.new (p:=p2))).trans (.new (p:=(w,O.list ((rot (p0::ps)).map rf)))));have qp:=Qk.perm (u:=u) (Qs:=cY (rot (p0::ps))) ls.sp (bA.map _);refine BF (d:=D'+6) (u:=u) ck ((B.dec (b':=b+2+1) dA).dt (PM _ _)) (YU.sub λp v=>bA.mem_iff.mp v) (ID (PI bA.length_eq) (ID hl dD)) (PJ qp.p pm) (λz=>⟨qp.fl.trans (C z),λz=>ne (UB (sB z bA.symm))⟩) (.head _) λU4 a4 p4 ij Wj s4 v4 a5 h5=>?_;have s5:=s4.new (o:=.list ([p0,(pT u (y.nid+1) (bL (cY (rot (p0::ps)))),a4)].map rf)) h5;have Wf:=Wj.trans (.new (p:=(a5,O.list ([p0,(pT u (y.nid+1) (bL (cY (rot (p0::ps)))),a4)].map rf))));refine j9 (d:=D'+6) ck (j.trans Wf) (s5.dec (b':=b+1) dA) (eg ((YU.mono Wf) _ (.head _)) (eg ⟨v4.mono .new,xK,by rw[zj];exact PD _⟩ bP)) (P6 rfl) (Qk.nest ls.sp (bA.map _) C (by have z:=ls.sp;refine dg z λ_ _ e z _=>?_;cases e;exact z) (.refl _)) pm C (λz=>nomatch z) (.head _) (λx hx=>(ls.wt x hx).imp_right λz2=>am z2 λp v z=>(aK _ (.tail _ (.head _)) (rR Cr (rP.mpr ⟨p.1,P1.mpr ⟨p,bA.mem_iff.mpr v,rfl⟩,z⟩)))) (M (λz=>BE (aO (fW e) (mO z)))) q
 ·refine DF (ID hl dD) s2 (.head _) rfl λp1 p2 w Xa B=>?_;have j:=T.trans (((Le.new (g:=y) (U:=U1) (p:=p1)).trans (.new (p:=p2))).trans (.new (p:=(w,O.list ((rot ps).map rf)))));obtain⟨v0,vs,rfl,aw,_⟩:=is;refine BF (d:=D'+6) (u:=u) ck (B.dec (b':=b+19+(me (.cons a r)).2.b+1) dA) ((va.mono (((Le.new (g:=y) (U:=U1) (p:=p1)).trans (.new (p:=p2))).trans (.new (p:=(w,O.list ((rot ps).map rf)))))).sub λp v=>bA.mem_iff.mp v) (ID (PI bA.length_eq) (ID hl dD)) (PJ (Qk.perm (u:=u) (Qs:=cY (rot ps)) ls.sp (bA.map _)).p pm) (λz=>⟨(Qk.perm (u:=u) (Qs:=cY (rot ps)) ls.sp (bA.map _)).fl.trans (C z),λz=>ne (UB (sB z bA.symm))⟩) (.head _) λU4 a4 p4 ij Wj s4 v4=>?_;have A:=j.trans Wj;refine cm (i:=0) (s4.h.loc (A.mem _ mk)) dD rfl (hw a (.head _) (ID (PX (QC 60 (QY ..)) 20) hD) lf.1 om.1 s4 (ID (Qu (PI A.deep) (QC 3 (QY ..))) hd) (aV A.mem aw) λg5 U5 X5 N1 a5 tg Wf s5 v5 Y4 VM ø a6 h6=>?_);have Sg:=Wf.trans (.new (p:=(a6,O.list ([(pT u (y.nid+1) (bL (cY (rot ps))),a4),(N1,a5)].map rf))));refine j9 (d:=D'+6) (qs:=[(pT u (y.nid+1) (bL (cY (rot ps))),a4),(N1,a5)]) ck (A.trans Sg) ((s5.new (o:=.list ([(pT u (y.nid+1) (bL (cY (rot ps))),a4),(N1,a5)].map rf)) h6).dec (b':=b+1) dA) (eg ⟨v4.mono Sg,xK,by rw[zj];exact Sg.nid⟩ (eg ⟨v5.mono .new,VM.one,VM.hi⟩ bP)) (P6 rfl) (Qk.nest ls.sp (bA.map _) C Y4 (Rw N1 (pT u (y.nid+1) (bL (cY (rot ps)))) [])) pm C (λz=>nomatch z) (.head _) (λx hx=>?_) (M (λz=>BE (aO (fW e) (mO z)))) q;rcases VM.wt x hx with m|m
  ·exact(ls.wt x m).imp_right λz3=>by exact am z3 λp v z=>(aK _ (.head _) (rR Cr (rP.mpr ⟨p.1,P1.mpr ⟨p,bA.mem_iff.mpr v,rfl⟩,z⟩)))
  exact .inr (aK _ (.tail _ (.head _)) m)
 ·have ite:∀{Q:KV}{σ:Hp},Q (nV (if u=true then 14 else 13)) σ->qh (Q (.int 14) σ) (Q (.int 13) σ) σ (.bool (decide (KG u=83))):=λ{Q σ} h=>by
   induction u
   ·exact af h
   ·exact aq h
  have M6:(if u=true then 14 else 13)<15:=by induction u<;>decide
  have Z4:(if u=true then 14 else 13)=10->7≠0:=λø=>by decide
  refine bk (.append (s2.h.loc (.head _))) (ag (a:=KG u) (b:=83) (ite (pB (how:=7) (d:=D'+5) (b:=b+1) ck M6 Z4 ((s2.dec (b':=b+1+3) dA).dt (PM _ _)) λg3 U3 X3 w n3 Xa j B w3 lo3 z5 u3 V5=>?_)));obtain⟨Y,rfl⟩:=j.x;refine kJ (.append (B.h.loc (PK Y (.head _))) pl (wExpr rfl ?_));rw[show ps.map rf++[V.ref w]=(ps++[(Nd.leaf n3 (if u=true then 14 else 13),w)]).map rf from(PU (f:=rf) (l₁:=ps) (l₂:=[(Nd.leaf n3 (if u=true then 14 else 13),w)])).symm];have W5:=AP (u:=u) (λz=>ne (R4.mp z)) V5;refine j9 (d:=D'+6) ck (bg.trans (⟨j.up,j.nid,j.rows,j.keep,j.told,j.wt,j.deep,j.wlo,_::Y,rfl⟩:Le y g3 U1 U3 X1 ((a1,.list ((ps++[(Nd.leaf n3 (if u=true then 14 else 13),w)]).map rf))::(Y++X1)))) (⟨(H.mid (Y:=Y) (o':=.list ((ps++[(Nd.leaf n3 (if u=true then 14 else 13),w)]).map rf)) B.h),B.go,B.bd,B.nd,B.id⟩:St c g3 (b+1) t ((a1,.list ((ps++[(Nd.leaf n3 (if u=true then 14 else 13),w)]).map rf))::(Y++X1)) _ U3) ((zN.mono (⟨j.up,j.nid,j.rows,j.keep,j.told,j.wt,j.deep,j.wlo,_::Y,rfl⟩:Le y g3 U1 U3 X1 ((a1,.list ((ps++[(Nd.leaf n3 (if u=true then 14 else 13),w)]).map rf))::(Y++X1))) ls.va).snoc (N:=.leaf n3 (if u=true then 14 else 13)) (a:=w) ⟨⟨u3,trivial,trivial,fT (λp v=>.tail _ v) _ W5,bP,trivial⟩,rfl,z5⟩) (ID (PI PQ) (Qn (ID hl dD))) (rR (show cY (ps++[(Nd.leaf n3 (if u=true then 14 else 13),w)])=cY ps++[Nd.leaf n3 (if u=true then 14 else 13)] from PU) (Qk.more ls.sp nn C)) pm C (λz=>VC (UJ.mp z).2 (λz=>nomatch z)) (.head _) (wt w3 λp v=>PZ _ v) (M (λz=>BE (aO (fW e) (mO z)))) q
 ·exact j9 (d:=D'+6) ck T ((s2.dec (b':=b+1) dA).dt (PM _ _)) va (ID hl dD) (Qk.perm ls.sp (.refl _)) pm C ne (.head _) (wt rfl λp v=>v) (λz=>rR DG (rR QA (rR (show ps.map (ex∘λp=>p.1)=aF (.cons a r) from ls.ex z) (rR (kc il) rfl)))) q
theorem JE(o:dP T=true)(h:bS X T [v]):∃m w,v=.tup [nV m,w]:=by
 induction T with
 |nil=>exact VC o PC
 |cons a r=>exact VC o PC
 |el s t=>exact VC o PC
 |leaf i=>cases h;exact(vy 0 _ rfl)
 |uni l=>refine eA (h) λa us e _=>?_;cases e;exact(vy 1 _ rfl)
 |int l=>refine eA (h) λa us e _=>?_;cases e;exact(vy 2 _ rfl)
 |arr t=>obtain⟨a,e,_⟩:=h;cases e;exact(vy 3 _ rfl)
 |tup l=>refine eA (h) λa us e _=>?_;cases e;exact(vy 4 _ rfl)
 |ro t=>obtain⟨a,e,_⟩:=h;cases e;exact(vy 5 _ rfl)
theorem wD(h:H c g b t X σ)(q:Q (.ref c.d) σ):dS (.ref c.w) Q (.str "d") σ:=rM h.c_w (P7.mpr ⟨bJ _,rfl⟩) rfl q
theorem wN(h:H c g b t X σ)(q:Q (.ref c.n) σ):dS (.ref c.w) Q (.str "n") σ:=rM h.c_w (P7.mpr ⟨bJ _,rfl⟩) rfl q
theorem Cg(h:∀p∈g.types,p.1≠n):aJ (nV n) (jQ g.types)=none:=m8.elim (λo=>PO (o) λu L=>VC rfl (h _ L.1)) λz=>z.2
theorem zg(ck:ai c)(hf:f<=1)(o:dP T=true)(pw:fq c l ns f T):gg c l ns f T:=λ{D g b t X σ U Q v} hD ok om s hd is q=>by
 refine jn (zb (n:=D) (k:=10) (lq hD)) λD WM=>?_;subst WM;refine i5 (JE o is) λm w XM=>?_;subst XM;refine ah (F:=oq) rfl rfl (pw (Rg (ID dA hD)) ok om s hd is λi U1 C N a Wa Y s1 va sp A ø=>ag (b:=1) (az (λe=>?_) λe=>?_))
 ·subst e;refine wD s1.h (pr (n:=5) (b:=b+(me T).1.s+9) ck s1 dD λhow ab ø s2=>ag (b:=0) (db (y:=decide (m<4)) (λø k=>bx rfl (ez k)) (cD (λz a2 h2=>?_) λø=>ag (b:=1) (az (λø a2 h2=>?_) λø=>?_))))
  ·have s3:=s2.new (o:=.list ([a].map V.ref)) h2;have Xe:Le i i.tk U1 U1 C ((a2,.list ([a].map V.ref))::C):=Le.take.trans .new;exact jb (kind:=98) (fl:=0) (d:=D+5) ck (s3.dec (b':=b+1) dA) (va.mono Xe) (λn=>.par n N) (.head _) (λh s=>⟨h,s⟩) (λo=>⟨Qq A.hi,o⟩) ⟨(va.mono Xe).ok,A.one⟩ (λat_ is Z z=>z _ _ _ at_ is) (va.mono Xe).tl (λr=>r) λU4 a4 p4 ij Wj s4 B=>q _ U4 _ _ a4 ij ((Y.trans Xe).trans Wj) s4 B sp.par ⟨rfl,Qq (ID (P2 A.lo) A.hi),PD _,A.wt,λz=>VC z dD⟩ λh=>VC h PC
  ·have s3:=s2.new (o:=.list []) h2;refine nE (kind:=81) (av:=.str "N") (fl:=0) (ks:=[]) (d:=D+5) (b:=b+(me T).1.s+8) ck s3 (some (.ref (i.nid+1) N)) (.head _) λU4 a4 dx p4 ij Wj s4 hu ZU=>?_;have Zq:Le i i.tk.nx U1 U4 C (p4::(a2,.list [])::C):=(Le.take.trans .new).trans Wj;have B:=va.mono Zq;have Y5:i.tk.nx.deep+lv N<=60:=by exact lq (aO hd (aO (fW (Y.deep:i.deep=g.deep)) (sp.lv)))
   refine wN s4.h (eh s4.h.c_n (ck.nf _).type_of rfl (Nr ck A.one (d:=D+9-fu N) (b:=b+1) (Q5 (lq (aO hD (sp.fu)))).symm ⟨s4.h.dec (lq (sp.co)),s4.go,B.sub,B.old,B.ok,B.is,B.tl,Y5,B.rf⟩ λg5 u tg r=>?_));have fr:∀p∈g5.types,p.1≠i.nid+1:=λp hp e=>by
    refine RD (r.gr.types p hp) (λz=>?_) λz=>?_
    ·obtain⟨N',eN,_⟩:=s2.go.cache p z;exact Si _ (e▸s2.bd _ _ eN)
    exact Si _ (ID (e▸z:i.nid+1<=lc N) A.hi)
   have j:g5.nid=i.nid+1:=r.gr.nid;have hl:(jQ g5.types).length<=lim:=ID (PI (PL _)) (P2 (PJ (ID (Qp _ _) (ID (PM _ _) (ID (PM _ _) (PM _ _)))) r.h.lt));refine wN r.h (aW r.h.c_n (ck.nf _).types rfl (yQ r.h ZU (jT r.h.c_types (P7.mpr ⟨rfl,all_map λø=>rfl⟩) hl ?_)));refine(Qe (fU (Cg fr)))▸((Qe (show jQ g5.types++[(nV (i.nid+1),nV u)]=jQ (g5.types++[(i.nid+1,u)]) from(PU (f:=λp:Nat×Nat=>(nV p.1,nV p.2)) (l₁:=g5.types) (l₂:=[(i.nid+1,u)])).symm))▸?_);have L:g5.wt=i.wt:=r.gr.wt;have Sg:Le i.tk.nx {g5 with types:=g5.types++[(i.nid+1,u)]} U4 U4 (p4::(a2,.list [])::C) (p4::(a2,.list [])::C):=⟨λø ø h=>h,PI j.symm,r.gr.rows,λp hp=>PZ _ (r.gr.keep p hp),r.gr.told,λx hx=>L▸hx,r.gr.deep,λx hx=>.inl (L▸hx),[],rfl⟩;have s6:St c {g5 with types:=g5.types++[(i.nid+1,u)]} b t (p4::(a2,.list [])::C) _ U4:=⟨(r.h.s_type (i.nid+1,u)),⟨r.go.wf,r.go.pos,λp hp=>(P3.mp hp).elim (r.go.cache p) λz=>by refine(Qe (PG.mp z))▸?_;exact(oW (.ref (i.nid+1) N) (hu _ rfl) r.ty r.told),r.go.sub,r.go.nd⟩,λn M e=>ID (s4.bd n M e) (PI j.symm),L▸s4.nd,λx hx=>ID (s4.id x (L▸hx)) (PI j.symm)⟩;exact q _ U4 _ (.ref (i.nid+1) N) a4 _ ((Y.trans Zq).trans Sg) s6 ⟨⟨hu _ rfl,(B.mono Sg).sub⟩,trivial,trivial,λZ z=>z dx _ ZU,(B.mono Sg).tl,⟨u,PK _ (.head _)⟩⟩ sp.ref ⟨rfl,Qq (ID (P2 A.lo) A.hi),PI j.symm,λx hx=>A.wt x (L▸hx),λz=>VC z dD⟩ λh=>VC h PC
  exact q _ U1 C N a ab (Y.trans .take) (s2.dec dA) (va.mono .take) sp.down ⟨A.one,A.lo,A.hi,A.wt,A.ex⟩ λh=>VC h PC
 have f0:f=0:=Nat.lt_one_iff.mp (QN hf (by assumption));exact ag (a:=4) (b:=0) (db (x:=false) (y:=true) (λz=>VC z PC) (af (ag (a:=4) (b:=1) (af (q i U1 C N a Wa Y (s1.dec dA) va sp.down ⟨A.one,A.lo,A.hi,A.wt,A.ex⟩ λh=>VC h PC)))))
theorem sY(k:ai c)(i:f<=1)(s:St c g (b+1) t X σ U)(q:∀J how o,how<8->(f=0->how=7)->J.nid=g.nid->J.wt=g.wt->Le g J U U X X->St c J b t X o U->Q (nV how) o):
  qh (dS (.ref c.w) (λv σ=>ad (aa l ns) (d+1) 1197 [v,.int 8] σ Q) (.str "d") σ) (Q (.int 7) σ) σ (.bool (decide (f=1))):=
 az (λe=>wD s.h (pr (n:=8) k s dD λhow o h s'=>q g.tk how o h (λz=>VC (z.symm.trans e) dD) rfl rfl .take s')) λe=>q g 7 σ dD (λa=>rfl) rfl rfl .refl (s.dec (Qt _))
theorem hH.from(le:Le g J U U X X)(en:J.nid=g.nid)(p:J.wt=g.wt)(q:hH c g b t X U k f T row Q):hH c J b t X U k f T row Q:=λh n e N a σ Y s v M w r=>q h n e N a σ (le.trans Y) s v M ⟨w.one,sB en w.lo,w.hi,λx i=>(w.wt x i).imp_left λm=>sB p m,w.ex⟩ r
theorem L9(o:ai c)(r:f<=1):fq c l ns f (.leaf i):=λ{D g b t X σ U Q v} j x y s L is q=>by refine jn (zb (n:=D) (k:=10) (lq j)) λD h=>rR h ?_;cases is;have s:St c g (b+30) t X σ U:=s;refine ah (F:=cX) rfl rfl (ag (b:=1) (sY (d:=D+8) (b:=b+28) o r (s.dec dA) λJ how w N e en p le s'=>bx rfl (ag (a:=0) (b:=0) (aq (bx rfl (da (.div dD dD ?_)))))));exact rR ((by decide:∀m,m<8->(Int.fdiv ((m:Nat):Int) 4)=((m/4:Nat):Int)) how N:(Int.fdiv ((how:Nat):Int) 4)=((how/4:Nat):Int)) (FE (how:=how/4) (f:=f) (d:=D+3) (b:=b+18) o x (λz=>by refine(Qe (e z))▸?_;decide) (s'.dec dA) (q.from le en p))
theorem Mo:(me (vx u L)).1.h=(me L).1.h+1/\(me (vx u L)).1.s=(me L).1.s+(me L).2.s+(bif u then 8 else 208)/\(me (vx u L)).1.t=(me L).1.t+(me L).2.t/\(me (vx u L)).1.b=(me L).1.b+(me L).2.b+((me L).1.s+(me L).2.s+(bif u then 138 else 338)):=by cases u<;>exact⟨rfl,rfl,rfl,rfl⟩
theorem Jy:Ky (vx u L)=false:=by cases u<;>rfl
theorem Lp(is:bS X (vx u L) [v]):∃K us,v=.tup [nV (bif u then 1 else 2),.ref K]/\(K,O.list us)∈X/\bS X L us:=by cases u<;>exact dg is λa us e m i=>ng a us (QB e).1 m i
theorem Hb(m:ai c)(hf:f<=1)(hw:∀x∈aF L,gg c l ns f x)(T:g4 (vx u L)->oo (vx u L)->g4 L/\oo L/\jm L=true/\L≠.nil/\(aF L).length<=90/\(me L).1.p+(me L).2.p+(bif u then 1 else 13)<64/\(u=false->bu L=true)):fq c l ns f (vx u L):=λ{D g b t X σ U Q v} h C r s N is q=>by
 refine jn (zb (n:=D) (k:=10) (lq h)) λD e=>?_;subst e;refine Ji (T C r) λy i il nn ll j fl=>EG (Mo (u:=u) (L:=L)) λA M B w=>?_;simp only[A] at h N;replace s:=(B)▸s;replace s:=(w)▸s;replace s:=(show(bif u then 138 else 338)=(bif u then 8 else 208)+130 by cases u<;>rfl)▸s;have q':hH c g (b+((me L).1.s+(me L).2.s+(bif u then 8 else 208))+10) t X U 1 f (vx u L) false Q:=by rw[M,Jy] at q;exact q
 refine dg (Lp is) λK us e5 mk o=>?_;subst e5;refine ah (F:=cX) rfl rfl (ag (b:=1) (sY (d:=D+8) (b:=b+(me L).1.b+(me L).2.b+((me L).1.s+(me L).2.s+(bif u then 8 else 208)+130)-1) m hf (s.dec Os) λJ how p h8 h7 en ew le s'=>?_));have Y:ad (aa l ns) (D+9) 1267 [.ref c.w,nV (KG u),.ref K,nV how,nV f] p Q:=Ka (D:=D+8) (how:=how) (b:=b+((me L).1.s+(me L).2.s+(bif u then 8 else 208))+10) (t:=t) m hw (lq h) y i il nn ll j fl h7 ((s'.dec Oz).dt dA) (by have z:=le.deep;exact lq (aO N (fW z))) (le.mem _ mk) (aV le.mem o) (q'.from le en ew);clear A M B w s s' q q' T C r j fl is;cases u
 ·exact bx rfl (ag (a:=2) (b:=0) (af (bx rfl (ez (a:=2) (b:=3) (aq (bx rfl (ag (a:=2) (b:=1) (af (bx rfl Y)))))))))
 exact bx rfl (ag (a:=1) (b:=0) (af (bx rfl (ez (a:=1) (b:=3) (aq (bx rfl (ag (a:=1) (b:=1) (aq (bx rfl Y)))))))))
theorem Sp.arr(h:Sp 0 N T):Sp 1 (.arr n N) (.arr T):=by
 have lv:=h.lv;have fu:=h.fu;have co:=h.co;refine⟨λR w r=>?_,λa R w=>?_,rfl,rfl,rfl,PD _,h.p,PD _,?_,?_,?_⟩
 ·show LP R [((aT R (ex N)).s 0,2)] r=LP R [((aT R T).s 0,2)] r;rw[h.s R w]
 ·show[((aT R (ex N)).s 0,2)]=[((aT R T).s 0,2)];rw[h.s R w]
 ·show Internal.lv N+1+1<=3*((me T).1.h+1);exact lq lv
 ·show Internal.fu N+6+4*1<=44*((me T).1.h+1);exact lq fu
 show Internal.co N+2+1<=((me T).1.s+140);exact lq co
theorem Sp.arrT(h:Sp 0 N T):Sp 1 (.tup n (.cons (.el m 2 (.arr k N)) .nil)) (.arr T):=by
 have lv:=h.lv;have co:=h.co;have e:∀R,WF R->nrm R ((aT R (.arr (ex N))).e++[])=[((aT R T).s 0,2)]:=λR w=>by simp only[Qm,pi w (T:=.arr (ex N)) rfl];show[((aT R (ex N)).s 0,2)]=_;rw[h.s R w]
 refine⟨λR w r=>?_,λa R w=>e R w,rfl,rfl,rfl,PD _,h.p,PD _,?_,?_,?_⟩
 ·show LP R (nrm R ((aT R (.arr (ex N))).e++[])) r=LP R [((aT R T).s 0,2)] r;exact rR (e R w) rfl
 ·show max (Internal.lv N+1) 0+1+1<=3*((me T).1.h+1);rw[TP (PY _)];exact lq h.lv
 ·show max (Internal.fu N+6) 0+20+4*1<=44*((me T).1.h+1);exact rR (TP (PY _)) (lq h.fu)
 show(Internal.co N+2+1+0)+132+1<=((me T).1.s+140);exact lq co
theorem Sp.ro(h:Sp k N T):Sp 1 (.ro n N) (.ro T):=by
 have lv:=h.lv;have fu:=h.fu;have co:=h.co;refine⟨λR w r=>h.s R w 1,λz R w=>h.e z R w,h.li,rfl,h.br,h.p,h.eb,h.en,?_,?_,?_⟩
 ·show Internal.lv N+1+1<=3*((me T).1.h+1);exact lq lv
 ·show Internal.fu N+16+4*1<=44*((me T).1.h+1);exact lq fu
 show Internal.co N+132+1<=((me T).1.s+140);exact lq co
theorem Nk(ck:ai c)(hf:f<=1)(hw:gg c l ns f T):fq c l ns f (.arr T):=λ{D g b t X σ U Q v} hD ok om s hd is q=>by
 refine jn (zb (n:=D) (k:=15) (lq hD)) λD B=>?_;subst B;have hD:60*((me T).1.h+1)+15<=D+15:=hD;have hd:g.deep+3*((me T).1.h+1)<=60:=hd;have s:St c g (b+((me T).1.b+((me T).1.s+270))) (t+(me T).1.t) X σ U:=s;have q:hH c g (b+((me T).1.s+140)+10) t X U 1 f (.arr T) true Q:=q;refine am (is) λw e YM=>?_;cases e;refine ah (F:=cX) rfl rfl (ag (b:=1) (sY (d:=D+13) (b:=b+((me T).1.s+140)+20+(me T).1.b) ck hf (s.dec dA) λJ how ma h8 h7 en ew le s'=>bx rfl (ag (a:=3) (b:=0) (af (bx rfl (ez (a:=3) (b:=3) (af (bx rfl (ag (a:=3) (b:=4) (af (bx rfl (ag (a:=3) (b:=3) (aq (bx rfl ?_))))))))))))));refine hw (lq hD) ok.1 om.2 s' (by have z:=le.deep;exact lq (aO hd (fW z))) (aV le.mem YM) λi U1 X1 N a Wa Y s1 va sp M ø a2 h2=>jb (kind:=85) (fl:=0) (d:=D+10) (b:=b+((me T).1.s+140)+19) ck (s1.new (o:=.list ([a].map V.ref)) h2) (va.mono (.new (p:=(a2,O.list ([a].map V.ref))))) (λn=>.arr n N) (.head _) (λh s=>⟨h,s⟩) (λo=>⟨Qq M.hi,o⟩) ⟨(va.mono (.new (p:=(a2,O.list ([a].map V.ref))))).ok,M.one⟩ (λat_ is Z z=>z _ _ _ at_ is) (va.mono (.new (p:=(a2,O.list ([a].map V.ref))))).tl (λr=>r) λU3 j p3 Xa L s3 v3=>ez (b:=3) (az (λXf a4 h4=>?_) λhge=>?_)
 ·have s4:=s3.new (o:=.list ([j].map V.ref)) h4;refine jb (kind:=87) (fl:=8192) (d:=D+10) (b:=b+((me T).1.s+140)+18) ck s4 (v3.mono (.new (p:=(a4,O.list ([j].map V.ref))))) (λn=>.el n 2 (.arr (i.nid+1) N)) (.head _) (λh s=>⟨h,s⟩) (λo=>⟨QF _,o⟩) ⟨(v3.mono (.new (p:=(a4,O.list ([j].map V.ref))))).ok,rfl,PD _,λø=>rfl⟩ (λat_ is Z z=>z _ _ _ at_ is) (v3.mono (.new (p:=(a4,O.list ([j].map V.ref))))).tl (λr=>r) λU5 A p5 tg Wf s5 v5 a6 h6=>?_;have y:=v5.mono (.new (p:=(a6,O.list ([A].map V.ref))));have v7:Va i.nx.nx U5 ((a6,O.list ([A].map V.ref))::p5::(a4,O.list ([j].map V.ref))::p3::(a2,O.list ([a].map V.ref))::X1) (.cons (.el (i.nx.nid+1) 2 (.arr (i.nid+1) N)) .nil) [A]:=⟨⟨y.sub,trivial⟩,⟨y.old,trivial⟩,⟨y.ok,trivial⟩,⟨A,[],rfl,y.is,rfl⟩,λx C=>(P3.mp C).elim (y.tl x) λm=>VC m PH,y.rf,trivial⟩;refine jb (kind:=86) (fl:=0) (d:=D+10) (b:=b+((me T).1.s+140)+17) ck (s5.new (o:=.list ([A].map V.ref)) h6) v7 (λn=>.tup n (.cons (.el (i.nx.nid+1) 2 (.arr (i.nid+1) N)) .nil)) (.head _) (λh s=>⟨h,s⟩) (λo=>⟨eg (QF _) (bP),o⟩) ⟨⟨rfl,P6 rfl⟩,eg rfl (bP),v7.ok,P6 rfl,(PJ sp.p om.1)⟩ (λat_ is Z z=>z _ _ _ at_ is) (λx C=>v7.tl x C) (λr=>r) λU8 a8 p8 ZM VN s8 v8=>(q.from le en ew) _ U8 _ _ a8 ZM ((((((Y.trans .new).trans L).trans .new).trans Wf).trans .new).trans VN) (s8.dec dA) v8 sp.arrT ⟨rfl,?_,PD _,λx C=>(M.wt x C).imp_right λm=>PK _ (PZ _ m),λz=>VC Xf (by refine(Qe (h7 z))▸?_;decide)⟩ λø=>rfl;show J.nid<i.nid+1+1+1;have:=Y.nid;exact lq this
 exact(q.from le en ew) _ U3 _ _ j Xa ((Y.trans .new).trans L) (s3.dec dA) v3 sp.arr ⟨rfl,Qq Y.nid,PD _,M.wt,λz=>PR Tm.arr (M.ex z)⟩ λø=>rfl
theorem LC(h:Ky T=true):gw T=true:=by cases T<;>first|rfl|exact VC h PC
theorem MI(h:GW T=true):gw T=false:=by cases T<;>first|rfl|exact VC h PC
theorem Kw(h:bu (ex N)=true):iZ N=false:=by cases N<;>first|rfl|exact VC h PC
theorem JL(h:GW T=true)(is:bS X T [w]):∃M,w=.tup [nV 1,M]:=by cases T<;>first|exact VC h PC|exact eA is λa us e _=>⟨_,(QB e).1⟩
theorem Nl(ck:ai c)(hf:f<=1)(hA:Ky T=true)(hp:fq c l ns f T):fq c l ns f (.ro T):=λ{D g b t X σ U Q v} B ok om s hd is q=>by
 refine jn (zb (n:=D) (k:=15) (lq B)) λD Y=>?_;subst Y;have B:60*((me T).1.h+1)+15<=D+15:=B;have hd:g.deep+3*((me T).1.h+1)<=60:=hd;have hL:gw T=true:=LC hA;have s:St c g (b+((me T).1.b+((me T).1.s+270))) (t+((me T).1.t+if gw T then 0 else 1)) X σ U:=s;refine am (is) λw y e=>?_;obtain rfl:=(QB y).1;refine i5 (DO hL e) λm w2 A=>?_;obtain⟨rfl,hm⟩:=A;refine ah (F:=cX) rfl rfl (ag (b:=1) (sY (d:=D+13) (b:=b+((me T).1.s+140)+20+(me T).1.b) ck hf (s.dec dA) λJ how ma h8 h7 en ew le s'=>bx rfl (ag (a:=5) (b:=0) (af (bx rfl (ez (a:=5) (b:=3) (af (bx rfl (ag (a:=5) (b:=4) (af (bx rfl (ag (a:=5) (b:=3) (af (bx rfl (bx rfl (oe (b:=1) (az (λø=>bx rfl ?_) λz=>VC hm z)))))))))))))))));refine hp (t:=t) (D:=D+14) (lq B) ok.1 om.2.2.2 (s'.dt dA) (by have z:=le.deep;exact lq (aO hd (fW z))) (aV le.mem e) λg1 U1 X1 N a Wa i s1 va M C row L h2=>?_;have j:∀n,tl (.ro n N)=tl N:=λn=>by show(if iZ N then[] else[(1354,n)])++tl N=_;refine rR (PW (row hA:iZ N=true)) ?_;rfl
 refine jb (kind:=97) (fl:=0) (d:=D+10) (b:=b+((me T).1.s+140)+10) ck ((s1.new (o:=.list ([a].map V.ref)) h2).dec dA) (va.mono (.new (p:=(L,O.list ([a].map V.ref))))) (λn=>.ro n N) (.head _) (λh s=>⟨h,s⟩) (λo=>⟨Qq C.hi,o⟩) ⟨(va.mono (.new (p:=(L,O.list ([a].map V.ref))))).ok,C.one,.inl (M.li.trans hL),PJ M.en ok.2.2.2.2.1,PJ M.eb om.1,PJ M.p om.2.1⟩ (λat_ is Z z=>z _ _ _ at_ is) (λx hx=>(va.mono (.new (p:=(L,O.list ([a].map V.ref))))).tl x (sB (j _) hx)) (λr=>r) λU3 a3 p3 Xa Xe s3 v3=>((q:hH c g (b+((me T).1.s+140)+10) t X U 1 f (.ro T) false Q).from le en ew) _ U3 _ _ a3 Xa ((i.trans .new).trans Xe) s3 v3 M.ro ⟨rfl,Qq i.nid,PD _,λx hx=>(C.wt x hx).imp_right λm=>rR (j _) m,λz=>PR Tm.ro (C.ex z)⟩ λh=>VC h PC
theorem NO(ck:ai c)(hf:f<=1)(hU:GW T=true)(hw:gg c l ns f T):fq c l ns f (.ro T):=λ{D g b t X σ U Q v} hD ok om s hd is q=>by
 refine jn (zb (n:=D) (k:=15) (lq hD)) λD WN=>?_;subst WN;have hD:60*((me T).1.h+1)+15<=D+15:=hD;have hd:g.deep+3*((me T).1.h+1)<=60:=hd;have hL:gw T=false:=MI hU;have s:St c g (b+((me T).1.b+((me T).1.s+270))) (t+((me T).1.t+if gw T then 0 else 1)) X σ U:=s;rw[hL] at s;have s:St c g (b+((me T).1.b+((me T).1.s+270))) (t+1+(me T).1.t) X σ U:=s.dt (PI (by show t+1+(me T).1.t=t+((me T).1.t+1);exact Qz dA dA));refine am (is) λw e r=>?_;obtain rfl:=(QB e).1;refine jn (JL hU r) λw2 e5=>?_;subst e5;refine ah (F:=cX) rfl rfl (ag (b:=1) (sY (d:=D+13) (b:=b+((me T).1.s+140)+20+(me T).1.b) ck hf (s.dec dA) λJ how ma h8 h7 en ew le s'=>bx rfl (ag (a:=5) (b:=0) (af (bx rfl (ez (a:=5) (b:=3) (af (bx rfl (ag (a:=5) (b:=4) (af (bx rfl (ag (a:=5) (b:=3) (af (bx rfl (bx rfl (oe (a:=1) (b:=1) (af (bx rfl ?_))))))))))))))))));have fl:bu T=true:=(ok.2.2.1.resolve_left (λz=>PC (hL.symm.trans z))).2;refine hw (D:=D+14) (lq hD) ok.1 om.2.2.2 s' (by have z:=le.deep;exact lq (aO hd (fW z))) (aV le.mem r) λj U1 X1 N a Wa bg s1 va sp wn row L h2=>?_;have fN:bu (ex N)=true:=sp.fl.trans fl;have XN:iZ N=false:=Kw fN;have dV:∀n,tl (.ro n N)=(1354,n)::tl N:=λn=>by show(if iZ N then[] else[(1354,n)])++tl N=_;refine rR XN ?_;rfl
 refine nE (kind:=97) (av:=.str "") (fl:=0) (d:=D+10) (b:=b+((me T).1.s+140)+10) ck (ks:=[a]) ((s1.new (o:=.list ([a].map V.ref)) h2).dec dA) (some (.ro (j.nid+1) N)) (.head _) λU3 a3 dx p3 Xa Y A hu M=>?_;have v3:=(va.mono (.new (p:=(L,O.list ([a].map V.ref))))).mono Y;refine rM A.h.c_w (P7.mpr ⟨bJ _,rfl⟩) rfl (bk (.append A.h.c_wt) (aW (A.h.loc M.nd) rfl rfl (kJ (.append A.h.c_wt ?_ (wExpr rfl ?_)))))
 ·exact ID (PI (PL _)) (ID (ID (PM _ _) A.h.bw) dD)
 have h4:=A.h.s_wt (1354,j.nid+1);simp only[PU] at h4;have B:Le j {j.nx with wt:=j.nx.wt++[(1354,j.nid+1)]} U1 U3 ((L,O.list ([a].map V.ref))::X1) (p3::(L,O.list ([a].map V.ref))::X1):=⟨Y.up,Y.nid,Y.rows,Y.keep,Y.told,λx i=>PZ _ (Y.wt x i),Y.deep,λx i=>(P3.mp i).elim (Y.wlo x) λm=>by rw[PG.mp m];exact .inr (QF _),Y.x⟩;have s4:St c {j.nx with wt:=j.nx.wt++[(1354,j.nid+1)]} (b+((me T).1.s+140)+10) t (p3::(L,O.list ([a].map V.ref))::X1) _ U3:=⟨h4,⟨A.go.wf,A.go.pos,A.go.cache,λx i=>PZ _ (A.go.sub x i),A.go.nd⟩,A.bd,Q8.mpr ⟨A.nd,QK.mpr ⟨PH,.nil⟩,λx i y hy e=>by cases PG.mp hy;have z:=s1.id x i;rw[e] at z;exact Si _ z⟩,bh (P:=λx:Nat×Nat=>x.2<=j.nid+1) A.id (PD _)⟩;have C:=(va.mono (.new (p:=(L,O.list ([a].map V.ref))))).mono B;exact((q:hH c g (b+((me T).1.s+140)+10) t X U 1 f (.ro T) false Q).from le en ew) _ U3 _ (.ro (j.nid+1) N) a3 _ ((bg.trans .new).trans B) s4 ⟨⟨hu _ rfl,C.sub⟩,⟨Qq wn.hi,C.old⟩,⟨C.ok,wn.one,.inr fN,PJ sp.en ok.2.2.2.2.1,PJ sp.eb om.1,PJ sp.p om.2.1⟩,λZ z=>z [a] dx _ M C.is,λx i=>by rw[dV] at i;exact(P0.mp i).elim (λe=>e▸PK _ (.head _)) (C.tl x),C.rf⟩ sp.ro ⟨rfl,Qq bg.nid,PD _,λx i=>by rw[dV];exact(P3.mp i).elim (λm=>(wn.wt x m).imp_right λm=>.tail _ m) λm=>.inr (rR (PG.mp m) (.head _)),λz=>PR Tm.ro (wn.ex z)⟩ λh=>VC h PC
end
end
theorem Cy:∀{es:nZ},2∈(gH es).map (·.2)↔2∈es.map (·.2):=by
 intro l;induction l with
 |nil=>exact Ul
 |cons x r ih=>
  by_cases e:x.2=2
  ·exact rR (show gH (x::r)=_ from PW e) ⟨λa=>P1.mpr (aK x (.head _) e),λa=>.head _⟩
  rw[show gH (x::r)=_ from PV e,QG,QG,P0,P0,ih];have h:(2=(if x.2=1/\0∈r.map (·.2) then(cH x,0) else x).2)↔2=x.2:=by
   by_cases z:x.2=1/\0∈r.map (·.2)
   ·exact rR (PW z) ⟨λh=>VC (show 2=0 from h) dD,λh=>VC h.symm e⟩
   rw[PV z]
  exact or_congr_left h
theorem lh:∀{T:Tm},2∈(val T).e.map (·.2)↔br T=true
 |.nil=>⟨λh=>VC h PH,λh=>VC h PC⟩
 |.leaf _=>⟨λh=>VC h PH,λh=>VC h PC⟩
 |.uni _=>⟨λh=>VC h PH,λh=>VC h PC⟩
 |.int _=>⟨λh=>VC h PH,λh=>VC h PC⟩
 |.arr _=>⟨λf=>rfl,λf=>.head _⟩
 |.tup l=>Cy.trans (lh (T:=l))
 |.ro t=>lh (T:=t)
 |.cons a r=>by show 2∈((val a).e++(val r).e).map (·.2)↔(br a||br r)=true;rw[PU,P3,UP,lh (T:=a),lh (T:=r)]
 |.el s t=>by
  show 2∈(if s=2 then(val t).e else[((val t).v,s)]).map (·.2)↔(s==2&&br t)=true;by_cases e:s=2
  ·subst e;exact lh (T:=t)
  rw[PV e,beq_false_of_ne e,SA];exact⟨λh=>VC (PG.mp h).symm e,λh=>VC h PC⟩
noncomputable def sT:Tm->Nat|.el s _=>s|_=>0
noncomputable def fk:List Tm->Bool->Bool->Nat->Option (Nat×Nat)
 |[],_,_,_=>none
 |x::r,rest,late,k=>if cE (sT x) (br x) rest late=0 then fk r (rest||br x) (late||decide (sT x=1)) (k+1) else some (k,cE (sT x) (br x) rest late)
def Ot(o:Option (Nat×Nat)):V:=o.elim (.tup [.int (-1),.int 0]) λp=>.tup [nV p.1,nV p.2]
section
variable{t:Nat}{l:Addr}
theorem Pa:∀{T:Tm},gw T=true->g4 T->(lb T).2<=90020
 |.arr _,_,o=>PX o.2.2.1 20
 |.tup _,_,o=>ID o.2.2.2.2.2.2 dD
 |.ro _,_,o=>ID o.2.2.2.1 dD
 |.nil,h,_=>VC h PC
 |.cons _ _,h,_=>VC h PC
 |.leaf _,h,_=>VC h PC
 |.uni _,h,_=>VC h PC
 |.int _,h,_=>VC h PC
 |.el _ _,h,_=>VC h PC
theorem Cp{s D:Nat}{w:V}(k:s=2->fd T<=D+2)(x:g4 T)(r:s=2->gw T=true)(h:H c g b t X σ)(is:bS X T [w])(q:∀Y p,H c g b t (Y++X) p->Q (.bool (br (.el s T))) p):
  jG false (Bk (aa l ns) (ad (aa l ns) D) (.cons (.cmp .In (.lit (.int 2)) (.comp kM (.two 7 8) (.call 1231 "_law_elems" (.cons (.var 5) .nil)) .nil)) .nil) false) [r0,r1,r2,r3,r4,some w,r6,r7,r8] Q (.bool (decide (s=2))) σ:=by
 have eb:br (.el s T)=(decide (s=2)&&br T):=rfl
 rw[eb] at q
 refine az (λz=>?_) λz=>?_
 ·refine(Mu T).e (r z) (k z) x h is λa os Y p e A C=>?_;have G:os.length<=lim:=by
   have u:=((dF T (fG x)).2.1).l;rw[mP] at u;have B:os.length=(val T).e.length:=by exact(e)▸((PL _).symm)
   exact ID (lq (aO u (aO (fW B) (Pa (r z) x))):os.length<=90020) dD
  refine wG (f:=yV) (λy=>nV y.2) (.list (C.loc (.head _))) G (λy L R U=>⟨_,_,rfl,U⟩) λn j=>?_;have N:=C.new (o:=.list (os.map λy=>nV y.2)) j;have v:(os.map λy=>nV y.2)=((val T).e.map (·.2)).map nV:=by refine(e)▸(rR QA (rR QA ?_));rfl
  rw[v] at N⊢;refine oY (Dq (m:=2) (N.loc (.head _))) ?_;have y:=q (_::_::Y) _ N;rw[Qg z,TK] at y;exact rR (show decide (2∈(val T).e.map (·.2))=br T by
   cases i:br T
   ·exact Qb λm=>PC (i.symm.trans (lh.mp m))
   exact Qg (lh.mpr i)) y
 ·have y:=q [] σ h;rw[Qb z,SA] at y;exact(Qe (Qb z))▸y
theorem CI(ck:ai c){L:Tm}{K:Addr}{D:Nat}(hD:fd L+5<=D)(lf:g4 L)(il:jm L=true)(ll:(aF L).length<=100)(el:∀x∈aF L,IP x=true)(h:H c g b t X σ)(mk:(K,O.list us)∈X)(is:bS X L us)(q:∀o,H c g b t X o->Q (Ot (fk (aF L) false false 0)) o):ad (aa l ns) D 1272 [.ref K] σ Q:=by
 refine jn (zb (n:=D) (k:=2) (lq hD)) λD B=>?_;subst B
 refine EY (nJ il is) λxs G e2 hx _=>?_;subst G
 have hl:xs.length<=100:=by refine sB (PL (as:=xs) (·.1)) (sB e2 ?_);exact ll
 rw[e2] at q
 refine ah (F:=ow) rfl rfl (eZ (h.loc mk) (cO rfl (ID hl dD):(xs.map (·.2)).length<=lim) (PL _) (jY (ID hl dD) (λk ρ σ=>∀Z:Prop,(∀rest late w3 w4 w5 w6 Y,ρ=[some (.ref K),some (.bool rest),some (.bool late),w3,w4,w5,w6,none,none]->fk ((xs.drop k).map (·.1)) rest late k=fk (xs.map (·.1)) false false 0->H c g b t (Y++X) σ->Z)->Z) (λZ z=>z false false none none none none [] rfl rfl h) (λk f R hR ρ σ i=>i _ λrest late w3 w4 w5 w6 Y j U C=>?_) λρ σ i=>i _ λrest late w3 w4 w5 w6 Y j U C=>?_))
 ·rw[j];have M:=hx xs[k] (Rq f);have gk:(xs.map (·.2))[k]?=some xs[k].2:=cZ f;rw[(RE f:xs.drop k=xs[k]::xs.drop (k+1))] at U;generalize xs[k]=x at*;generalize xs.drop (k+1)=r at*;obtain⟨T,v⟩:=x;refine i5 (BA (el _ M.1)) λs u e6=>?_;subst e6;refine am (M.2) λw ew vk=>?_;obtain rfl:=(QB ew).1;have m:=sD (P:=g4) (λe e h=>h) M.1 lf;have s2:s<=2:=m.1;have pu:fd u<=fd L:=wA (.el s u) M.1;have N:br (.el s u)=(decide (s=2)&&br u):=rfl;refine cm (C.loc ((λp hp=>PK _ hp:∀p∈X,p∈Y++X) _ mk)) (P5 f (ID hl dD)) gk ⟨_,_,rfl,ag (b:=2) (Cp (λe=>lq (aO hD pu)) m.2.1 m.2.2.2 C (aV (λp hp=>PK _ hp:∀p∈X,p∈Y++X) vk) λY' o h2=>?_)⟩;have bb:(decide (s=2)&&br (.el s u))=br (.el s u):=by refine rR N ?_;cases decide (s=2)<;>rfl
  have U:(if cE s (br (.el s u)) rest late=0 then fk (r.map (·.1)) (rest||br (.el s u)) (late||decide (s=1)) (k+1) else some (k,cE s (br (.el s u)) rest late))=fk (xs.map (·.1)) false false 0:=U;unfold cE at U;rw[bb] at U;have a:H c g b t X o:=h2.drop.drop;refine db (x:=rest) (y:=br (.el s u)) (λe k=>k) (cD (λz=>?_) λz1=>db (x:=rest) (y:=decide (s=1)) (λe k=>ag (b:=1) k) (cD (λz=>?_) λz2=>db (x:=late) (y:=decide (s=0)) (λe k=>ag (b:=0) k) (cD (λz=>?_) λz3=>kh (x:=rest) (y:=br (.el s u)) (λe k=>k) (kh (x:=late) (y:=decide (s=1)) (λe k=>ag (b:=1) k) (hR _ _ λZ zz=>zz (rest||br (.el s u)) (late||decide (s=1)) _ _ _ _ (Y'++Y) rfl ?_ (by rw[Qo];exact h2))))))
  ·rw[PW z] at U;exact(by rw[<-U] at q;exact q o a)
  ·rw[PV (Qv.mp z1),PW z] at U;exact(by rw[<-U] at q;exact q o a)
  ·have z':(late&&(!decide (s=1)&& !decide (s=2)))=true:=by
    refine dQ (vB z) λy1 A=>?_;have A:=P9 A;refine rR y1 (rR A ?_);rfl
   rw[PV (Qv.mp z1),PV (Qv.mp z2),PW z'] at U;exact(by rw[<-U] at q;exact q o a)
  have z': ¬(late&&(!decide (s=1)&& !decide (s=2)))=true:=λy=>by
   refine dQ (vB y) λy1 A=>dQ (vB A) λy3 y4=>?_;rw[y1,TK] at z3;have n0:=Rp z3;have n1:=Rp ((QD _).mp y3);have n2:=Rp ((QD _).mp y4);lia
  rw[PV (Qv.mp z1),PV (Qv.mp z2),PV z',PW rfl] at U;exact U
 ·rw[j];have e0:fk ((xs.drop xs.length).map (·.1)) rest late xs.length=none:=by refine rR R9 ?_;rfl
  rw[<-U,e0] at q;exact kr (q _ C.drop)
end
section
variable{t f:Nat}{l:Addr}{U Y:Us}
structure El(k:Nat)(Ns:List Nd)(ts:List Tm)(h:Nat):Prop where
 e:∀R,WF R->Ns.flatMap (λN=>(aT R (ex N)).e)=ts.flatMap λT=>(aT R T).e
 b:(Ns.map λN=>eb (ex N)).sum<=(ts.map λT=>(me T).1.e).sum
 n:(Ns.map λN=>en (ex N)).sum<=(ts.map en).sum
 m:∀N∈Ns,lv N<=3*h+k/\fu N<=44*h+20*k
 c:(Ns.map co).sum+(if k=0 then 134*Ns.length else 0)<=(ts.map λT=>(me T).1.s).sum
 br:Ns.any (λN=>br (ex N))=ts.any br
 x:∀N∈Ns,Bb N=true
theorem El.nil:El k [] [] h:=⟨λa a=>rfl,PD _,PD _,bP,by split<;>exact PD _,rfl,bP⟩
theorem El.app{Ns m:List Nd}{h:Nat}(a:El k Ns ts h)(b:El k m us h):El k (Ns++m) (ts++us) h:=by
 have s:∀{u:Type}{f:u->Nat}{A B:List u},((A++B).map f).sum=(A.map f).sum+(B.map f).sum:=λ{u f A B}=>by simp only[PU,RC]
 refine⟨λR w=>by simp only[Qx,Qx,a.e R w,b.e R w],by simp only[s,s];exact Qu a.b b.b,by simp only[s,s];exact Qu a.n b.n,λN L=>(P3.mp L).elim (a.m N) (b.m N),by have i:=a.c;have x:=b.c;simp only[s,s,PQ];split at i<;>split at x<;>split<;>lia,by simp only[TQ,TQ,a.br,b.br],λN L=>(P3.mp L).elim (a.x N) (b.x N)⟩
theorem El.one{n s:Nat}{T:Tm}(a:Sp 0 N T)(hs:s=2->gw T=true)(u:(me T).1.h<=h):El 0 [.el n s N] [.el s T] h:=by
 have lv:=a.lv;have fu:=a.fu;have co:=a.co;refine⟨λR w=>?_,?_,?_,λM k=>?_,?_,?_,λM k=>by refine rR (PG.mp k) ?_;rfl⟩
 ·show(if s=2 then(aT R (ex N)).e else[((aT R (ex N)).s 0,s)])++[]=(if s=2 then(aT R T).e else[((aT R T).s 0,s)])++[];by_cases z:s=2
  ·exact rR (PW z) (rR (PW z) (rR (a.e (hs z) R w) rfl))
  rw[PV z,PV z,a.s R w]
 ·show(if s=2 then eb (ex N) else pb (ex N)+(if s=1 then 1 else 0))+0<=(if s=2 then(me T).1.e else(me T).1.p+(if s=1 then 1 else 0))+0;by_cases z:s=2
  ·refine rR (PW z) (rR (PW z) ?_);exact a.eb
  rw[PV z,PV z];exact PX a.p _
 ·show(if s=2 then en (ex N) else 1)+0<=(if s=2 then en T else 1)+0;by_cases z:s=2
  ·refine rR (PW z) (rR (PW z) ?_);exact a.en
  rw[PV z,PV z];exact PD _
 ·refine rR (PG.mp k) (?_:Internal.lv N<=_/\Internal.fu N<=_);lia
 ·show Internal.co N+1+0+134*1<=(me T).1.s+135+0;exact lq co
 show((s==2&&Internal.br (ex N))||false)=((s==2&&Internal.br T)||false);exact rR a.br rfl
theorem Cv(ck:ai c){T:Tm}(hw:gg c l ns f T){D:Nat}(hD:60*(me T).1.h+21<=D)(A:g4 (.el s T))(om:oo T)(st:St c g (b+1+(me T).1.b) (t+(me T).1.t) X σ U)(hd:g.deep+3*(me T).1.h<=60)(is:bS X T [w])(q:∀J Y I N n a p,Le g J U Y X I->St c J b t I p Y->Va J Y I (.el n s N) [a]->n<=J.nid->g.nid<n->Sp 0 N T->(∀x∈J.wt,x∈g.wt\/x∈tl N)->(f=0->ex N=T)->(∀x∈J.wt,x.2≠n)->Q (.ref a) p):ad (aa l ns) D 1279 [.ref c.w,.tup [nV s,w],nV f] σ Q:=by
 refine jn (zb (n:=D) (k:=5) (lq hD)) λD j=>?_;subst j
 have B:=A.1;have fl:∀s,s<=2->[V.int 0,.int 4096,.int 8192][s]?=some (nV (iV s)):=λs h=>by
  refine RD (Nat.le_succ_iff.mp h) (λh=>?_) λh=>?_
  ·refine RD (Nat.le_succ_iff.mp h) (λh=>?_) λh=>?_
   ·refine rR (Vx.mp h) ?_;rfl
   refine rR h ?_;rfl
  subst h;rfl
 refine ah (F:=qb) rfl rfl (bx rfl (hw (b:=b+1) (lq hD) A.2.1 om st hd is λg1 M C N y Wa m s1 L sp v ø a2 h2 a3 h3=>bx rfl (cm (i:=s) (PW rfl) (PJ B dD) (fl s B) ?_)))
 have e:Le g1 g1 M M C ((a3,.list [.int 0,.int 4096,.int 8192])::(a2,.list ([y].map V.ref))::C):=Le.new.trans .new
 exact jb (kind:=87) (fl:=iV s) (d:=D) ck ((s1.new (o:=.list ([y].map V.ref)) h2).new (o:=.list [.int 0,.int 4096,.int 8192]) h3) (L.mono e) (λn=>.el n s N) (.tail _ (.head _)) (λh s=>⟨h,s⟩) (λo=>⟨Qq v.hi,o⟩) ⟨(L.mono e).ok,v.one,B,λz=>sp.li.trans (A.2.2.2 z)⟩ (λat_ is Z z=>z _ _ _ at_ is) (L.mono e).tl (λr=>r) λU4 a4 p4 G u s4 v4=>q _ U4 _ N _ a4 G ((m.trans e).trans u) s4 v4 (PD _) (Qq m.nid) sp v.wt v.ex λx hx=>Q9 (Qq (((s1.new (o:=.list ([y].map V.ref)) h2).new (o:=.list [.int 0,.int 4096,.int 8192]) h3).id x hx))
end
end
theorem El.up(a:El 0 Ns ts h):El 1 Ns ts h:=⟨a.e,a.b,a.n,λN I=>have z:=a.m N I;⟨QI z.1,ID z.2 (PM _ _)⟩,ID (ID (PI (Nat.add_zero _)) (PM _ _)) a.c,a.br,a.x⟩
theorem CU:∀{L:List Nd}{R:List Row},(aT R (ex (bL L))).e=L.flatMap λN=>(aT R (ex N)).e:=by
 intro l;induction l with
 |nil=>intro _;exact rfl
 |cons a L ih=>intro R;exact PR ((aT R (ex a)).e++ ·) ih
theorem HH:∀{L:List Tm}{R:List Row},(aT R (toT L)).e=L.flatMap λT=>(aT R T).e:=by
 intro l;induction l with
 |nil=>intro _;exact rfl
 |cons a L ih=>intro R;exact PR ((aT R a).e++ ·) ih
theorem iG:∀{L:List Nd},eb (ex (bL L))=(L.map λN=>eb (ex N)).sum/\en (ex (bL L))=(L.map λN=>en (ex N)).sum/\br (ex (bL L))=L.any λN=>br (ex N):=by
 intro l;induction l with
 |nil=>exact⟨rfl,rfl,rfl⟩
 |cons a L ih=>exact have i:=ih;⟨PR (eb (ex a)+ ·) i.1,PR (en (ex a)+ ·) i.2.1,PR (br (ex a)|| ·) i.2.2⟩
def Ai(ts:List Tm):=∀R,WF R->nrm R (ts.flatMap λT=>(aT R T).e)=ts.flatMap λT=>(aT R T).e
theorem El.run{n m:Nat}{ts:List Tm}(a:El 0 Ns ts h)(ne:Ns≠[])(ro:Ai ts):El 1 [.el n 2 (.tup m (bL Ns))] ts h:=by
 have lv:=pP λN I=>(a.m N I).1;have fu:=uF λN I=>(a.m N I).2;have g:=a.c;refine⟨λR w=>?_,?_,?_,λM k=>?_,?_,?_,λM k=>by refine rR (PG.mp k) ?_;rfl⟩
 ·show nrm R (aT R (ex (bL Ns))).e++[]=_;simp only[Qm,CU,a.e R w,ro R w]
 ·show eb (ex (bL Ns))+0<=_;rw[(iG (L:=Ns)).1];exact a.b
 ·show en (ex (bL Ns))+0<=_;exact rR ((iG (L:=Ns)).2.1) a.n
 ·exact rR (PG.mp k) ⟨Qn lv,PX fu 20⟩
 ·show Internal.co (bL Ns)+132+1+0+0<=_;rw[u8];rw[PW rfl] at g;exact lq (aO g (vY 134 (TS.mpr ne:0<Ns.length)))
 show(Internal.br (ex (bL Ns))||false)=_;rw[Rz,(iG (L:=Ns)).2.2];exact a.br
theorem El.tup{n:Nat}{L:Tm}(a:El 1 Ns (aF L) (me L).1.h)(b:jm L=true)(o:((aF L).map λT=>(me T).1.e).sum=(me L).1.e/\((aF L).map Internal.en).sum=Internal.en L/\((aF L).map λT=>(me T).1.s).sum=(me L).1.s/\(aF L).any Internal.br=Internal.br L):Sp 1 (.tup n (bL Ns)) (.tup L):=by
 have lv:=pP λN I=>(a.m N I).1;have fu:=uF λN I=>(a.m N I).2;have g:=a.c;refine⟨λR w r=>?_,λc R w=>?_,rfl,rfl,?_,PD _,?_,?_,?_,?_,?_⟩
 ·show LP R (nrm R (aT R (ex (bL Ns))).e) r=LP R (nrm R (aT R L).e) r;exact rR ((λR w=>by rw[CU,a.e R w,<-HH,kc b]:∀R,WF R->(aT R (ex (bL Ns))).e=(aT R L).e) R w) rfl
 ·show nrm R (aT R (ex (bL Ns))).e=nrm R (aT R L).e;exact rR ((λR w=>by rw[CU,a.e R w,<-HH,kc b]:∀R,WF R->(aT R (ex (bL Ns))).e=(aT R L).e) R w) rfl
 ·show Internal.br (ex (bL Ns))=Internal.br L;exact rR ((iG (L:=Ns)).2.2) (rR a.br (rR o.2.2.2 rfl))
 ·show eb (ex (bL Ns))<=(me L).1.e;rw[(iG (L:=Ns)).1,<-o.1];exact a.b
 ·show Internal.en (ex (bL Ns))<=Internal.en L;refine rR ((iG (L:=Ns)).2.1) (sB o.2.1 ?_);exact a.n
 ·show Internal.lv (bL Ns)+1+1<=3*((me L).1.h+1);exact lq lv
 ·show Internal.fu (bL Ns)+20+4*1<=44*((me L).1.h+1);exact lq fu
 show Internal.co (bL Ns)+132+1<=(me L).1.s+140;rw[u8,<-o.2.2.1];rw[PV dD] at g;exact lq g
theorem Cf:∀{L:Tm},jm L=true->((aF L).map λT=>(me T).1.e).sum=(me L).1.e/\((aF L).map en).sum=en L/\((aF L).map λT=>(me T).1.s).sum=(me L).1.s/\(aF L).any br=br L
 |.nil,_=>⟨rfl,rfl,rfl,rfl⟩
 |.cons a r,h=>by have M:=Cf (L:=r) h;exact⟨PR ((me a).1.e+ ·) M.1,PR (en a+ ·) M.2.1,PR ((me a).1.s+ ·) M.2.2.1,PR (br a|| ·) M.2.2.2⟩
 |.leaf _,h=>VC h PC
 |.uni _,h=>VC h PC
 |.int _,h=>VC h PC
 |.arr _,h=>VC h PC
 |.tup _,h=>VC h PC
 |.ro _,h=>VC h PC
 |.el _ _,h=>VC h PC
theorem HZ:∀{es:ja},(∀x∈es,x.2≠2)->es.Pairwise (λx y=> ¬(x.2=1/\y.2=0))->nrm R es=es:=by
 intro l;induction l with
 |nil=>intro _ _;exact rfl
 |cons x r ih=>intro h p;rw[show nrm R (x::r)=_ from PV (h x (.head _)),ih (λy B=>h y (.tail _ B)) (RJ.mp p).2,PV];rintro⟨e,m⟩;exact am (P1.mp m) λy B s=>(RJ.mp p).1 y B ⟨e,s⟩
section
variable{rest late Y:Bool}{k:Nat}{ts us:List Tm}
def rs(ts:List Tm)(rest:Bool):Bool:=rest||ts.any br
def ls(ts:List Tm)(late:Bool):Bool:=late||ts.any λT=>decide (sT T=1)
theorem ye:∀{ts:List Tm}{rest late:Bool}{k:Nat},fk (ts++us) rest late k=none->fk ts rest late k=none/\fk us (rs ts rest) (ls ts late) (k+ts.length)=none:=by
 intro l;induction l with
 |nil=>intro rest late k h;exact⟨rfl,by delta rs ls;simp only[TZ,TZ,Rz,Rz];exact h⟩
 |cons x ts ih=>
  intro rest late k h;have h:(if cE (sT x) (br x) rest late=0 then fk (ts++us) (rest||br x) (late||decide (sT x=1)) (k+1) else some (k,_))=none:=h;by_cases z:cE (sT x) (br x) rest late=0
  ·simp only[PW z] at h;obtain⟨a,b⟩:=ih h;refine⟨(PW z).trans a,?_⟩;delta rs ls at b⊢;simp only[R6,R6,<-Uu,<-Uu];simp only[QH,RP 1] at b;exact b
  simp only[PV z] at h;exact nomatch h
section
variable{s:Nat}{U:Bool}
mutual
theorem wg(h:cE s U rest late=0)(r:Y=true->late=true):cE s U rest Y=0:=by
 induction Y
 ·revert h;induction rest<;>induction late<;>cases U<;>unfold cE<;>cases decide (s=1)<;>cases decide (s=2)<;>decide
 replace h:=(r rfl)▸h;exact h
def Bw(Ns:List Nd)(ts:List Tm):=∀rest late Y k,(Y=true->late=true)->fk ts rest late k=none->∃t,(t=true->ls ts late=true)/\∀M,oI (Ns++M) rest Y=oI M (rs ts rest) t
theorem Bw.nil:Bw [] []:=λrest late Y k h a=>(aK Y (λz=>by refine rR (h z) ?_;rfl) (λM=>by unfold rs;simp only[TZ,Rz];rfl))
theorem Bw.app(a:Bw Ns ts)(b:Bw Ms us):Bw (Ns++Ms) (ts++us):=λrest late Y k h e=>by have t:=ye e;refine am (a rest late Y k h t.1) λI u i=>am (b (rs ts rest) (ls ts late) I _ u t.2) λo c j=>(aK o (λz=>?_) (λM=>by rw[Qo,i,j];unfold rs;rw[TQ,Uu]));have y:=c z;unfold ls at y⊢;rw[TQ,<-Uu];exact y
theorem Bw.one(f:br (ex (.el n s N))=br (.el s T)):Bw [.el n s N] [.el s T]:=λrest late Y k h e=>by
 have z:cE s (br (.el s T)) rest late=0:=Ui λy=>by have e:(if cE s (br (.el s T)) rest late=0 then none else some (k,cE s (br (.el s T)) rest late))=none:=e;rw[PV y] at e;exact nomatch e
 refine(aK (Y||decide (s=1)) (λy=>?_) (λM=>?_))
 ·unfold ls;simp only[R6,TZ,Rz];rcases Qw.mp y with y|y
  ·refine rR (h y) ?_;rfl
  show(late||decide (s=1))=true;rw[y,UG]
 show(if cE s (br (ex (.el n s N))) rest Y=0 then oI M (rest||br (ex (.el n s N))) (Y||decide (s=1)) else _)=_;refine rR f (rR (PW (wg z h)) ?_);unfold rs;rw[R6,TZ,Rz]
theorem EZ:∀{ts:List Tm}{late:Bool}{k:Nat},(∀T∈ts,IP T=true)->fk ts true late k=none->ts.any br=false:=by
 intro l;induction l with
 |nil=>intro _ _ _ _;exact rfl
 |cons x ts ih=>
  intro late k I h;have h:(if cE (sT x) (br x) true late=0 then fk ts (true||br x) (late||decide (sT x=1)) (k+1) else some (k,_))=none:=h;have j:=I x (.head _);by_cases z:cE (sT x) (br x) true late=0
  ·replace h:=(PW z)▸h;have i:=ih (λT a=>I T (.tail _ a)) h;simp only[R6,i,Rz];cases f:br x
   ·rfl
   exfalso;replace z:=(f)▸z;cases x with
   |el s T=>have m:s=2:=Qd.mp (vB (f:(s==2&&br T)=true)).1;subst m;have z:cE 2 true true late=0:=z;revert z;induction late<;>decide
   |_=>exact VC j PC
  replace h:=(PV z)▸h;exact nomatch h
theorem Bw.run(f:Ns.any (λN=>br (ex N))=ts.any br)(I:∀T∈ts,IP T=true):Bw [.el n 2 (.tup m (bL Ns))] ts:=λrest late Y k h e=>by
 have eb:br (ex (.el n 2 (.tup m (bL Ns))))=ts.any br:=iG.2.2.trans f;have z:cE 2 (ts.any br) rest Y=0:=by
  induction rest
  ·induction Y<;>cases ts.any br<;>decide
  rw[EZ I e];induction Y<;>decide
 refine(aK Y (λy=>by rw[h y];rfl) (λM=>?_));show(if cE 2 (br (ex (.el n 2 (.tup m (bL Ns))))) rest Y=0 then oI M (rest||br (ex (.el n 2 (.tup m (bL Ns))))) (Y||false) else _)=_;rw[eb,PW z,Rz];rfl
theorem Dy:∀{Ns:List Nd}{ts:List Tm}{rest late:Bool}{k:Nat},Ns.map (λN=>(oB N,br (ex N)))=ts.map (λT=>(sT T,br T))->(fk ts rest late k=none->oI Ns rest late=[])/\∀j m,fk ts rest late k=some (j,m)->k<=j/\∃N,Ns[j-k]?=some N/\oI Ns rest late=[(m,lc N)]
 |[],[],_,_,_,_=>⟨λb=>rfl,λj m e=>nomatch e⟩
 |[],_::_,_,_,_,e=>nomatch e
 |_::_,[],_,_,_,e=>nomatch e
 |N::Ns,T::ts,rest,late,k,e=>by
  have i:=Dy (Ns:=Ns) (ts:=ts) (rest:=rest||br T) (late:=late||decide (sT T=1)) (k:=k+1) (QB e).2;have a:oI (N::Ns) rest late=if cE (sT T) (br T) rest late=0 then oI Ns (rest||br T) (late||decide (sT T=1)) else[(cE (sT T) (br T) rest late,lc N)]:=by refine sB ((Sq (QB e).1).1) (sB ((Sq (QB e).1).2) ?_);rfl
  show((if cE (sT T) (br T) rest late=0 then fk ts (rest||br T) (late||decide (sT T=1)) (k+1) else some (k,cE (sT T) (br T) rest late))=none->_)/\∀j m,(if cE (sT T) (br T) rest late=0 then fk ts (rest||br T) (late||decide (sT T=1)) (k+1) else some (k,cE (sT T) (br T) rest late))=some (j,m)->_;rw[a];by_cases z:cE (sT T) (br T) rest late=0
  ·refine rR (PW z) (rR (PW z) ?_);refine⟨i.1,λj m h=>?_⟩;have n:=i.2 j m h;have l:=n.1;exact PO (n.2) λM f=>⟨R0 l,M,by rw[show j-k=(j-(k+1))+1 by exact Qz (lq (aO (iq (P2 l)).1 (iq l).2)) (lq (aO (iq (P2 l)).2 (iq l).1))];exact f.1,f.2⟩
  refine rR (PV z) (rR (PV z) ?_);exact⟨λh=>(nomatch h),λj m h=>by cases h;exact⟨PD _,N,by rw[Sn];rfl,rfl⟩⟩
theorem zt:∀{ts:List Tm}{rest:Bool}{k:Nat},(∀T∈ts,sT T<=2)->fk ts rest true k=none->∀T∈ts,sT T≠0
 |x::ts,rest,k,hs,h,T,a=>by
  have h:(if cE (sT x) (br x) rest true=0 then fk ts (rest||br x) (true||decide (sT x=1)) (k+1) else some (k,_))=none:=h;by_cases z:cE (sT x) (br x) rest true=0
  ·rw[PW z] at h;rcases P0.mp a with rfl|a
   ·intro e;rw[e] at z;revert z;induction rest<;>cases br T<;>decide
   exact zt (λT a=>hs T (.tail _ a)) h T a
  rw[PV z] at h;exact nomatch h
theorem H4:∀{ts:List Tm}{rest late:Bool}{k:Nat},(∀T∈ts,sT T<=2)->fk ts rest late k=none->ts.Pairwise λx y=> ¬(sT x=1/\sT y=0):=by
 intro l;induction l with
 |nil=>intro _ _ _ _ _;exact .nil
 |cons x ts ih=>
  intro rest late k hs h;have h:(if cE (sT x) (br x) rest late=0 then fk ts (rest||br x) (late||decide (sT x=1)) (k+1) else some (k,_))=none:=h;by_cases z:cE (sT x) (br x) rest late=0
  ·rw[PW z] at h;refine RJ.mpr ⟨λy B e=>dQ e λA c=>?_,ih (λT a=>hs T (.tail _ a)) h⟩;rw[show(late||decide (sT x=1))=true by exact(Qe (A))▸(UG _)] at h;exact zt (λT a=>hs T (.tail _ a)) h y B c
  rw[PV z] at h;exact nomatch h
theorem IG(I:∀T∈ts,∃s t,T=.el s t/\s<2)(p:ts.Pairwise λx y=> ¬(sT x=1/\sT y=0)):Ai ts:=λR w=>by
 have e:(ts.flatMap λT=>(aT R T).e).map (·.2)=ts.map sT/\∀x∈ts.flatMap (λT=>(aT R T).e),x.2<2:=by
  clear p;induction ts with
  |nil=>exact⟨rfl,bP⟩
  |cons T ts ih=>refine eA (I T (.head _)) λs t u hs=>rR u (dQ (ih λT a=>I T (.tail _ a)) λM Q=>?_);have A:(aT R (.el s t)).e=[((aT R t).s 0,s)]:=PV (λz=>BE (aO hs (mO z)));exact rR QE (rR A ⟨PR (s:: ·) M,eg hs Q⟩)
 refine HZ (λx h=>Q9 (e.2 x h)) ?_;have q:((ts.flatMap λT=>(aT R T).e).map (·.2)).Pairwise λx y=> ¬(x=1/\y=0):=by exact rR e.1 (To.mpr p)
 exact To.mp q
theorem F1(h:s=2->gw t=true):Ai [.el s t]:=λR w=>by
 show nrm R ((aT R (.el s t)).e++[])=(aT R (.el s t)).e++[];rw[Qm];by_cases z:s=2
 ·subst z;exact pi w (T:=t) (h rfl)
 refine rR (yz z) (?_:(if s=2 then _ else _)=_);rw[PV z,PV λy=>VC y.2 PH];rfl
end
end
end
@[reducible] noncomputable def cR.add(c:cR)(p:Addr×O):cR:={c with fr:=p::c.fr}
section
variable{l:Addr}{ns:Z9}{f:Nat}
section
variable{c:cR}{g Y I:bM}{b t d:Nat}{X M X2:Y8}{σ C G:Hp}{Q:KV}{U J U2:Us}{p:Addr×O}
mutual
theorem ai.add(m:ai c):ai (c.add p):=⟨m.1,m.2,m.3,m.4,m.5,m.6,m.7,m.8,λk=>have z:=m.nf k;⟨z.1,z.2,z.3,z.4,z.5,z.6,z.7,z.8,z.9⟩,m.10,m.11,m.12,m.13,m.14,m.15,m.16,m.17,m.18,m.19⟩
theorem tj:(p::(X++cells c g)).Perm (X++cells (c.add p) g):=(xx (A:=[_,_,_,_,_,_,_,_,_,_,_,_,_,_])).symm
theorem St.push(s:St c g b t (p::X) σ U):St (c.add p) g b t X σ U:=⟨⟨s.h.hs.perm tj,s.h.bnd,s.h.bw⟩,s.go,s.bd,s.nd,s.id⟩
theorem St.pop(s:St (c.add p) g b t X σ U):St c g b t (p::X) σ U:=⟨⟨s.h.hs.perm tj.symm,s.h.bnd,s.h.bw⟩,s.go,s.bd,s.nd,s.id⟩
def eK(L:List Tm):Nat:=(L.map λT=>(me T).1.b).sum
def gX(L:List Tm):Nat:=(L.map λT=>(me T).1.t).sum
structure Tp(c:cR)(f:Nat)(g:bM)(U:Us)(X:Y8)(L:Tm)(res:Option (Nat×Nat))(b t k:Nat)(o:Addr)(ps:List (Nd×Addr))(Y:bM)(J:Us)(M:Y8)(σ:Hp):Prop where
 le:Le g Y U J X M
 s:St (c.add (o,.list (ps.map rf))) Y (b+eK ((aF L).drop k)) (t+gX ((aF L).drop k)) M σ J
 va:∀p∈ps,Va Y J M p.1 [p.2]/\lc p.1<=Y.nid
 el:El 1 (cY ps) ((aF L).take k) (me L).1.h
 fn:res=none->Bw (cY ps) ((aF L).take k)
 fa:res≠none\/f=0->(cY ps).map (λN=>(oB N,br (ex N)))=((aF L).take k).map λT=>(sT T,br T)
 wt:∀x∈Y.wt,x∈g.wt\/∃p∈ps,x∈tl p.1
 ex:f=0->(cY ps).map ex=(aF L).take k
 ln:ps.length<=k
 fr:∀p∈ps,g.nid<lc p.1/\∀x∈Y.wt,x.2≠lc p.1
theorem Tp.step(h:Tp c f g U X L res b t k o ps Y J M C)(le:Le Y I J U2 M X2)(s:St (c.add (o,.list (ps.map rf))) I (b+eK ((aF L).drop k')) (t+gX ((aF L).drop k')) X2 G U2)(A:Va I U2 X2 N [a])(hi:lc N<=I.nid)(el:El 1 [N] MZ (me L).1.h)(fn:res=none->Bw [N] MZ)(r:res≠none\/f=0->[(oB N,br (Internal.ex N))]=MZ.map λT=>(sT T,br T))(wt:∀x∈I.wt,x∈Y.wt\/x∈tl N)(i:f=0->[Internal.ex N]=MZ)(n:(aF L).take k'=(aF L).take k++MZ)(u:k<k')(lo:Y.nid<lc N)(fr:∀x∈I.wt,x.2≠lc N):
  Tp c f g U X L res b t k' o (ps++[(N,a)]) I U2 X2 (upd G o (.list (ps.map rf++[V.ref a]))):=by
 have en:cY (ps++[(N,a)])=cY ps++[N]:=PU
 have j:=s.pop
 have q:=j.h.head (o':=.list ((ps++[(N,a)]).map rf))
 refine⟨h.le.trans le,?_,λp v=>?_,by refine(Qe (en))▸(rR n ?_);exact h.el.app el,λz=>by refine(Qe (en))▸?_;refine rR n ?_;exact(h.fn z).app (fn z),λz=>?_,λx i=>?_,λz=>?_,?_,λp v=>?_⟩
 ·refine St.push ⟨?_,j.go,j.bd,j.nd,j.id⟩;rw[(PU:(ps++[(N,a)]).map rf=ps.map rf++[V.ref a])] at q⊢;exact q
 ·exact(P3.mp v).elim (λm=>have z:=h.va p m;⟨z.1.mono le,ID z.2 le.nid⟩) λm=>by exact rR (PG.mp m) ⟨A,hi⟩
 ·refine rR en ?_;refine rR n (rR PU ?_);refine rR PU ?_;refine rR (h.fa z) (sB (r z) ?_);rfl
 ·exact(wt x i).elim (λm=>(h.wt x m).imp_right λw=>am (w) λp v z=>(aK p (PZ _ v) z)) λm=>.inr (aK (N,a) (PK _ (.head _)) m)
 ·refine rR en ?_;refine rR n (rR PU ?_);refine rR (h.ex z) (sB (i z) ?_);rfl
 ·exact rR PQ (ID (Qn h.ln) u)
 ·rcases P3.mp v with m|m
  ·have z:=h.fr p m;exact⟨z.1,λx i=>(le.wlo x i).elim (z.2 x) λy e=>TF.mpr (h.va p m).2 (sB e y)⟩
  exact rR (PG.mp m) ⟨PJ h.le.nid lo,fr⟩
theorem GI:∀{ts:List Tm}{rest late N B:Bool}{k k':Nat},(N=true->rest=true)->(B=true->late=true)->fk ts rest late k=none->fk ts N B k'=none:=by
 intro m;induction m with
 |nil=>intro _ _ _ _ _ _ _ _ _;exact rfl
 |cons x ts ih=>
  intro rest late N B k k' i r h;have h:(if cE (sT x) (br x) rest late=0 then fk ts (rest||br x) (late||decide (sT x=1)) (k+1) else some (k,_))=none:=h;by_cases z:cE (sT x) (br x) rest late=0
  ·replace h:=(PW z)▸h;have o:=wg z r;have q:cE (sT x) (br x) N B=0:=by
    induction N
    ·revert o;induction rest<;>induction B<;>cases br x<;>unfold cE<;>cases decide (sT x=1)<;>cases decide (sT x=2)<;>decide
    replace o:=(i rfl)▸o;exact o
   refine(PW q).trans (ih (λy=>?_) (λy=>?_) h)
   ·exact Qw.mpr ((Qw.mp y).imp_left i)
   exact Qw.mpr ((Qw.mp y).imp_left r)
  replace h:=(PV z)▸h;exact nomatch h
def Kd(c:cR)(l:Addr)(ns:Z9)(f:Nat)(X:Y8)(h:Nat)(p:Tm×V):=∃s T w,p=(.el s T,.tup [nV s,w])/\bS X T [w]/\g4 (.el s T)/\oo T/\(me T).1.h<=h/\gg c l ns f T
theorem Lm(ck:ai c){xs:List (Tm×V)}{h D:Nat}{r1 r3 r4 r5 r6 r7 r8:V6}(hx:∀p∈xs,Kd c l ns f X h p)(hl:xs.length<=100)(hD:60*h+21<=D)(hd:g.deep+3*h<=60)(mk:(K,O.list (xs.map (·.2)))∈X)(s:St c g (b+eK (xs.map (·.1))) (t+gX (xs.map (·.1))) X σ U)(q:∀u A B es v,Le g u U A X B->St c u (b+19*xs.length) t B v A->(∀p∈es,Va u A B p.1 [p.2]/\lc p.1<=u.nid)->El 0 (cY es) (xs.map (·.1)) h->(∀x∈u.wt,x∈g.wt\/∃p∈es,x∈tl p.1)->(cY es).map (λN=>(oB N,br (ex N)))=(xs.map (·.1)).map (λT=>(sT T,br T))->alloc (.list (es.map rf)) v Q):
  iA (cP (aa l ns) (ad (aa l ns) D) kS) (.one 9) (Bv (aa l ns) (ad (aa l ns) D) .nil) [some (.ref c.w),r1,some (nV f),r3,r4,r5,r6,r7,r8,none] Q (.ref K) σ:=by
 refine oM (f:=λp:Tm×V=>p.2) (.list (s.h.loc mk)) (ID hl dD) (λst acc σ=>∀Z:Prop,(∀Y J M es,acc=es.map rf->Le g Y U J X M->St c Y (b+19*st.length+eK ((xs.drop st.length).map (·.1))) (t+gX ((xs.drop st.length).map (·.1))) M σ J->(∀p∈es,Va Y J M p.1 [p.2]/\lc p.1<=Y.nid)->El 0 (cY es) (st.map (·.1)) h->(∀x∈Y.wt,x∈g.wt\/∃p∈es,x∈tl p.1)->(cY es).map (λN=>(oB N,br (ex N)))=(st.map (·.1)).map (λT=>(sT T,br T))->Z)->Z)
  (λZ z=>z g U X [] rfl .refl s (bP) .nil (λx hx=>.inl hx) rfl) (λst x r e R acc hR σ i=>i _ λY J M es ea le k va el wt sb=>?_) λacc σ i=>i _ λY J M es ea le k va el wt sb=>?_
 ·refine Oy (hx x (rR e (PK _ (.head _)))) λj T w L is ok om hh hw=>?_;subst L;rw[(rR e (rR RS rfl):xs.drop st.length=(.el j T,.tup [nV j,w])::r)] at k;have eb:eK (((.el j T,.tup [nV j,w])::r:List (Tm×V)).map (·.1))=(me T).1.b+20+eK (r.map (·.1)):=rfl;have et:gX (((.el j T,.tup [nV j,w])::r:List (Tm×V)).map (·.1))=(me T).1.t+gX (r.map (·.1)):=rfl;simp only[eb,et] at k;refine⟨.list (k.h.loc (le.mem _ mk)),Cv (s:=j) (b:=b+19*(st.length+1)+eK (r.map (·.1))) (t:=t+gX (r.map (·.1))) ck hw (ID (lq (vY 60 hh)) hD) ok om ((k.dec dA).dt dA) (by have z:=le.deep;exact lq (aO hd (aO (vY 3 hh) (fW z)))) (aV le.mem is) λI U2 X2 N n a G o s2 v2 hi lo sp wn kV ø=>hR _ _ λZ z=>z I U2 X2 (es++[(.el n j N,a)]) ?_ (le.trans o) (by refine rR ((PR (List.drop (st++[(Tm.el j T,V.tup [nV j,w])]).length) (e.trans (R8 st _ r))).trans RS) (rR PQ ?_);exact s2) (λp hp=>?_) ?_ (λy hy=>?_) ?_⟩
  ·rw[ea];exact(PU (f:=rf) (l₁:=es) (l₂:=[(Nd.el n j N,a)])).symm
  ·exact(P3.mp hp).elim (λm=>have z:=va p m;⟨z.1.mono o,ID z.2 o.nid⟩) λm=>by exact rR (PG.mp m) ⟨v2,hi⟩
  ·rw[show cY (es++[(Nd.el n j N,a)])=cY es++[.el n j N] from PU,PU];exact el.app (.one sp ok.2.2.2 hh)
  ·exact(wn y hy).elim (λm=>(wt y m).imp_right λz1=>am (z1) λp hp z=>(aK p (PZ _ hp) z)) λm=>.inr (aK _ (PK _ (.head _)) m)
  refine rR (show cY (es++[(Nd.el n j N,a)])=cY es++[.el n j N] from PU) (rR PU (rR PU (rR PU (rR sb ?_))));refine PR (_++[·]) (US rfl ?_);show(j==2&&br (ex N))=(j==2&&br T);exact rR sp.br rfl
 ·rw[R9] at k;exact⟨.list (k.h.loc (le.mem _ mk)),ea▸q Y J M es σ le k va el wt sb⟩
theorem IY(ck:ai c){xs:List (Tm×V)}{k B D:Nat}{r3 r4 r5 r8 r9:V6}(hl:xs.length<=60)(hk:k<xs.length)(mk:(K,O.list (xs.map (·.2)))∈X)(hx:∀p∈xs,∃s T w,p=(Tm.el s T,V.tup [nV s,w])):
  ∀a j I σ,xs.length-j<a->k<j->j<=xs.length->(j=k+1\/∀p∈(xs.take j).drop k,sT p.1<2)->St c I (B+(xs.length-j)+1) t X σ U->I.nid=g.nid->I.wt=g.wt->Le g I U U X X->
  (∀x A o,k<x->x<=xs.length->(x=k+1\/∀p∈(xs.take x).drop k,sT p.1<2)->St c A (B+(xs.length-x)) t X o U->A.nid=g.nid->A.wt=g.wt->Le g A U U X X->R .next [some (.ref c.w),some (.ref K),some (nV f),r3,r4,r5,some (nV k),some (nV x),r8,r9] o)->
  jV (cP (aa l ns) (ad (aa l ns) (D+1)) kG) (fS (aa l ns) (ad (aa l ns) (D+1)) kI) R a [some (.ref c.w),some (.ref K),some (nV f),r3,r4,r5,some (nV k),some (nV j),r8,r9] σ:=by
 intro a
 induction a with
 |zero=>exactλj I σ h=>VC h (Sf _)
 |succ a ih=>
  intro j I σ hf L N u s en v le q;have l6:∀{i},i<xs.length->i<1000000:=λh=>P5 h (ID hl dD);have ev:=s.h.loc mk;refine kX (.lenL ev (cO rfl (ID hl dD):(xs.map (·.2)).length<=lim) (ez (az (λz=>?_) λz=>az (λy=>VC y z) λe=>(q j I σ L N u (s.dec (Qt _)) en v le))));have z:j<xs.length:=P5 z (PI (PL _));refine k6 (hx xs[k] (Rq hk)) λs1 T1 v1 e1=>k6 (hx xs[j] (Rq z)) λs2 T2 v2 e2=>cm ev (l6 hk) ((cZ hk).trans (rR e1 rfl):(xs.map (·.2))[k]?=some (.tup [nV s1,v1])) (bx rfl (ez (b:=2) (az (λy1=>cm ev (l6 z) ((cZ z).trans (by rw[e2])) (bx rfl (ez (b:=2) (az (λy2=>wD s.h (pr (n:=3) ck s dD λr o e s'=>cw .gt ?_)) λz=>az (λy=>VC y z) λe=>(q j I σ L N u (s.dec (Qt _)) en v le))))) λz=>az (λy=>VC y z) λe=>(q j I σ L N u (s.dec (Qt _)) en v le))));refine cD (λe=>B4 (.add ?_)) λe=>q j I.tk o L N u s' en v (le.trans (.take (g:=I) (U:=U) (X:=X)));refine ih (j+1) I.tk o (lq (aO hf (aO (iq z).1 (iq (P2 z)).2))) (RX L) z (.inr λp hp=>?_) (rR (show B+(xs.length-(j+1))+1=B+(xs.length-j) by exact Qz (lq (aO (iq z).1 (iq (P2 z)).2)) (lq (aO (iq z).2 (iq (P2 z)).1))) s') en v (le.trans (.take (g:=I) (U:=U) (X:=X))) q;have et:(xs.take (j+1)).drop k=(xs.take j).drop k++[xs[j]]:=by exact rR (Rn z) (rR (RV (by rw[RK];lia)) rfl)
  rw[et] at hp;rcases P3.mp hp with m|m
  ·rcases u with rfl|u
   ·have ek:(xs.take (k+1)).drop k=[xs[k]]:=by
     refine rR (Rn hk) (rR (RV (by rw[RK];omega)) (rR (SG (by refine rR RK ?_;omega)) ?_));rfl
    rw[ek] at m;rw[PG.mp m,e1];exact y1
   exact u p m
  refine rR (PG.mp m) (rR e2 ?_);exact y2
theorem D3{ts:List Tm}(h:k<ts.length):eK (ts.drop k)=(me ts[k]).1.b+eK (ts.drop (k+1))/\gX (ts.drop k)=(me ts[k]).1.t+gX (ts.drop (k+1)):=rR (RE h) ⟨rfl,rfl⟩
theorem Dv{u:Type}{ts:List u}(h:k<=s):ts.drop k=(ts.take s).drop k++ts.drop s:=by
 by_cases z:s<=ts.length
 ·conv=>lhs;rw[<-(Rm s ts)]
  exact rR (RV (by rw[RK,Tc z];exact h)) rfl
 rw[R5 (lq (SZ z)),SG (l:=ts) (i:=s) (lq (SZ z)),Qm]
theorem pM{u:Type}{ts:List u}(h:k<=s):ts.take s=ts.take k++(ts.take s).drop k:=by have e:=Rm k (ts.take s);simp only[List.take_take,Tc h] at e;exact e.symm
theorem zY{h:Tm->Nat}{ts:List Tm}(i:k<=s):(((ts.take s).drop k).map h).sum<=(ts.map h).sum:=by
 have e:(ts.map h).sum=((ts.take k).map h).sum+((((ts.take s).drop k).map h).sum+((ts.drop s).map h).sum):=by
  conv=>lhs;rw[<-Rm s ts,pM (ts:=ts) i]
  simp only[PU,PU,RC,RC,QH]
 exact rR e (ID (PM _ _) (Qp _ _))
theorem OX{x y:Nat}(h:x<=y):∃B,B+x=y:=⟨y-x,Q5 h⟩
theorem La(h:d<=60):d<=b+69+x:=ID h (ID (by decide:60<=69) (ID (Qp 69 b) (PM _ x)))
theorem O3(h:1<=d)(e:d<=60):b+71+x+1<=b+69+x-d+19*d:=lq (aO (iq (La e)).2 (vY 18 h)) (by simp+arith)
theorem O7{B n k s b D a i:Nat}(v:B+(n-k)=b+69+a)(e:a=i+D)(L:k<=s)(h:s<=n)(r:n<=60):b+69+D-(s-k)+i<=B+(n-s):=
 lq (aO (iq (La (ID (TG s k) (ID h r)))).1 (aO (mO v) (aO (mO e) (aO (iq (ID L h)).1 (aO (iq h).2 (iq L).2))))) (by simp+arith)
theorem Ds:eK (A++B)=eK A+eK B/\gX (A++B)=gX A+gX B:=by delta eK gX;refine rR PU (rR PU (rR RC (rR RC ?_)));exact⟨rfl,rfl⟩
theorem H8{L:Tm}{xs:List (Tm×V)}{D k:Nat}{sp num:V}{ps:List (Nd×Addr)}{w7 w8:V6}{R:Env->Hp->Prop}{KF:KS}(ck:ai c)(hf:f<=1)(eL:aF L=xs.map (·.1))(hl:xs.length<=60)(hk:k<xs.length)(u:∀p∈xs,∀c',ai c'->Kd c' l ns f X (me L).1.h p)(Ye:fk (xs.map (·.1)) false false 0=res)(Ww:sp=.int (-1)/\res=none\/∃i:Nat,sp=nV i/\res≠none)(he:(me L).1.e<64)(cd:en L<64)(il:jm L=true)(hD:60*(me L).1.h+35<=D)(hd:g.deep+3*(me L).1.h<=60)(mk:(K,O.list (xs.map (·.2)))∈X)(tp:Tp c f g U X L res (b+70) t k o ps Y J M σ)(q:∀k' Xw g' U' X' ma w7 w8,k<k'->k'<=xs.length->Tp c f g U X L res (b+70) t k' o Xw g' U' X' ma->R [some (.ref c.w),some (.ref K),some (nV f),some sp,some num,some (.ref o),some (nV k'),w7,w8,none] ma):
  fS (aa l ns) (ad (aa l ns) D) g6 [some (.ref c.w),some (.ref K),some (nV f),some sp,some num,some (.ref o),some (nV k),w7,w8,none] σ (tW R KF):=by
 refine jn (Ru (ID (Qp 10 (60*(me L).1.h+25)) hD)) λD YN=>?_;subst YN
 have up:=tp.le.mem
 have Z5:(xs.map (·.2)).length<=lim:=cO rfl (ID hl dD)
 have lk:k<(aF L).length:=by simp only[eL,PL];exact hk
 have xk:(aF L)[k]=xs[k].1:=by have z:(xs.map (·.1))[k]?=some xs[k].1:=cZ hk;rw[<-eL,P4 lk] at z;exact Qh z
 have gk:(xs.map (·.2))[k]?=some xs[k].2:=cZ hk
 have ZN:(aF L).take (k+1)=(aF L).take k++[xs[k].1]:=by exact rR (Rn lk) (rR xk rfl)
 obtain⟨eB,eT⟩:=D3 lk
 rw[xk] at eB eT
 have ol:∀{Xw:List (Nd×Addr)},Xw.length<=k->(Xw.map rf).length<=lim:=λh=>ID (PI (PL _)) (ID h (ID (P2 hk) (ID hl dD)))
 have dp:Y.deep=g.deep:=tp.le.deep
 have Xc:∀{I:bM}{G:Hp},Le Y I J J M M->I.nid=Y.nid->I.wt=Y.wt->St (c.add (o,.list (ps.map rf))) I (b+65+eK ((aF L).drop k)) (t+gX ((aF L).drop k)) M G J->
   fS (aa l ns) (ad (aa l ns) (D+10)) (.seq (.expr (.meth (.var 5) "append" (.cons (.call 1279 "_law_elem" (.cons (.var 0) (.cons (.item (.var 1) (.var 6)) (.cons (.var 2) .nil)))) .nil))) .nil) [some (.ref c.w),some (.ref K),some (nV f),some sp,some num,some (.ref o),some (nV k),some (nV (k+1)),w8,none] G (vE (fS (aa l ns) (ad (aa l ns) (D+10)) (.seq (.asg (.one 6) (.var 7)) .nil)) (tW R KF)):=λ{I G} VV en ew s2=>by
  refine Oy (u xs[k] (Rq hk) _ (ck.add (p:=(o,.list (ps.map rf))))) λv T w z6 is ok om hh hw=>?_
  rw[z6] at gk ZN eB eT
  have eB:eK ((aF L).drop k)=(me T).1.b+20+eK ((aF L).drop (k+1)):=eB
  have eT:gX ((aF L).drop k)=(me T).1.t+gX ((aF L).drop (k+1)):=eT
  rw[eB,eT] at s2
  refine bk (.append (s2.pop.h.loc (.head _))) (cm (s2.h.loc (up _ mk)) (P5 hk (ID hl dD)) gk (Cv (c:=c.add (o,.list (ps.map rf))) (b:=b+70+eK ((aF L).drop (k+1))) (t:=t+gX ((aF L).drop (k+1))) ck.add hw (lq (aO hD (vY 60 hh))) ok om ((s2.dec dA).dt dA) (by have z:=VV.deep;exact lq (aO hd (aO (fW dp) (aO (vY 3 hh) (fW z))))) (aV up is) λg3 U3 X3 N n a Xa Xe s3 v3 hi lo WV wn kV fr=>kJ (.append (s3.pop.h.loc (.head _)) (ol tp.ln) (wExpr rfl (q (k+1) (ps++[(.el n v N,a)]) g3 U3 X3 _ _ _ (QF _) hk ?_)))))
  have XV:br (ex (.el n v N))=br (.el v T):=by show(v==2&&br (ex N))=(v==2&&br T);rw[WV.br]
  exact tp.step (VV.trans Xe) s3 v3 hi (El.one WV ok.2.2.2 hh).up (λø=>.one XV) (λø=>PR (λb=>[(v,b)]) XV) (λx u=>ew▸wn x u) (λz=>PR (λT=>[Tm.el v T]) (kV z)) ZN (QF _) (PJ (PI en.symm) lo) fr
 have YV:St (c.add (o,.list (ps.map rf))) Y (b+65+eK ((aF L).drop k)) (t+gX ((aF L).drop k)) M σ J:=tp.s.dec dA
 have Yg:∀T∈aF L,∃s t,T=.el s t/\s<=2/\(s=2->gw t=true):=λT hT=>by rw[eL] at hT;exact am (P1.mp hT) λp hp HO=>(Qe (HO))▸(zG (u p hp c ck) λv T w e _ ok _=>(ng v T (rR e rfl) ok.1 ok.2.2.2))
 have RO:∀{ts:List Tm},(∀T∈ts,T∈aF L)->20*ts.length<=eK ts:=λ{ts}=>by
  induction ts with
  |nil=>exactλø=>PD _
  |cons T ts ih=>intro h;obtain⟨v,t0,e,_⟩:=Yg T (h T (.head _));have i:=ih λT hT=>h T (.tail _ hT);refine rR e (?_:20*(ts.length+1)<=((me t0).1.b+20)+eK ts);exact lq i
 refine da (.add (ag (b:=1) (az (λe1=>?_) λz=>az (λy=>VC y z) λø=>Xc .refl rfl rfl YV)))
 rcases Ww with ⟨rfl,hres0⟩|⟨i,rfl,_⟩
 ·refine cw .lt (aq (wD (c:=c.add (o,.list (ps.map rf))) tp.s.h (pr (c:=c.add (o,.list (ps.map rf))) (n:=3) ck.add (tp.s.dec (b':=b+69+eK ((aF L).drop k)+1) dA) dD λr G ø s2=>ag (b:=0) (az (λø=>⟨xs.length+1,?_⟩) λø=>Xc .take rfl rfl (s2.dec dA)))));have Yw:=RO (ts:=(aF L).drop k) λT hT=>QQ hT;rw[Rr,(by rw[eL,PL]:(aF L).length=xs.length)] at Yw;refine jn (OX (ID (UK _ dD) (ID Yw (Qp _ (b+69))))) λB hB=>IY (c:=c.add (o,.list (ps.map rf))) (g:=Y.tk) (B:=B) (D:=D+9) ck.add hl hk (up _ mk) (λp hp=>AC (u p hp c ck) λv T w e ø=>(M7 v T w e)) _ (k+1) Y.tk G (lq (iq hk).1) (QF _) hk (.inl rfl) (rR (show B+(xs.length-(k+1))+1=b+69+eK ((aF L).drop k) by exact Qz (lq (aO (fW hB) (aO (iq hk).1 (iq (P2 hk)).2))) (lq (aO (mO hB) (aO (iq hk).2 (iq (P2 hk)).1)))) s2) rfl rfl .refl λs' g3 Xa ks sn hr s3 en3 W6 Xe=>?_;have Zw:((xs.take s').drop k).map (·.1)=((aF L).take s').drop k:=by exact rR eL (rR Sv (rR R7 rfl))
  have TO:((xs.take s').drop k).length=s'-k:=by rw[Rr,RK,Tc sn]
  have ax:=(Ds (A:=((aF L).take s').drop k) (B:=(aF L).drop s'));rw[<-(Dv (ts:=aF L) (P2 ks))] at ax;have X6:St (c.add (o,.list (ps.map rf))) g3 (b+69+eK ((aF L).drop s')-(s'-k)+eK (((xs.take s').drop k).map (·.1))) (t+gX ((aF L).drop s')+gX (((xs.take s').drop k).map (·.1))) M Xa J:=by
   refine rR Zw ((s3.dec ?_).dt ?_)
   ·exact O7 hB ax.1 (P2 ks) sn hl
   have:=ax.2;exact lq (mO ax.2)
  refine Ox (i:=k) (j:=s') (s3.h.loc (up _ mk)) Z5 λsl Xu=>?_;have Wu:((xs.map (·.2)).take s').drop k=((xs.take s').drop k).map (·.2):=by exact rR Sv (rR R7 rfl)
  rw[Wu];have d3:g3.deep=Y.deep:=Xe.deep;refine Lm (c:=c.add (o,.list (ps.map rf))) (h:=(me L).1.h) (D:=D+10) ck.add (λp hp=>?_) (lq (aO hl (aO sn (aO (fW TO) (iq (P2 ks)).1)))) (lq hD) (lq (aO hd (aO (fW dp) (fW d3)))) (.head _) (X6.new (o:=.list (((xs.take s').drop k).map (·.2))) Xu) λg5 U5 X5 es tg Wf s5 v5 Xj Z6 VO a6 h6=>?_
  ·have Yv:p∈xs:=QP (QQ hp);exact Kg (u p Yv _ (ck.add (p:=(o,.list (ps.map rf))))) λv T w e is r=>⟨v,T,w,e,aV (λx m=>.tail _ (up x m)) is,r⟩
  rw[TO] at s5;rw[Zw] at Xj VO;have ar:Le Y g5 J U5 M X5:=((Le.take.trans Xe).trans .new).trans Wf;have WO:(cY es).length=s'-k:=(PL _).symm.trans ((PR List.length VO).trans ((PL _).trans ((PR List.length Zw.symm).trans ((PL _).trans TO))));have ne:cY es≠[]:=λz=>by rw[z] at WO;have:(0:Nat)=s'-k:=WO;exact BE (aO ks (aO (mO this) (iq (P2 ks)).2))
  have vl:=uq (g:=g5) (U:=U5) (X:=X5) λp hp=>(v5 p hp).1;have c7:fk (aF L) false false 0=none:=by exact rR eL (rR Ye (rR hres0 rfl))
  have ZV:fk (((aF L).take s').drop k) (rs ((aF L).take k) false) (ls ((aF L).take k) false) (0+((aF L).take k).length)=none:=by have z:=c7;rw[<-Rm s' (aF L),pM (ts:=aF L) (P2 ks),Qo] at z;exact(ye (ye z).2).1
  have x7:oI (cY es) false false=[]:=(Dy (k:=0) VO).1 (GI (λh=>VC h PC) (λh=>VC h PC) ZV);have Ze:∀T∈((aF L).take s').drop k,∃s t,T=.el s t/\s<=2/\(s=2->gw t=true):=λT hT=>Yg T (QP (QQ hT));have ro:Ai (((aF L).take s').drop k):=by
   rcases hr with rfl|hr
   ·rw[ZN,RV (by rw[RK];exact Nat.le_min.mpr ⟨PD _,P2 lk⟩),SG (rR RK (Nat.min_le_left ..))] at Ze⊢;obtain⟨v,t0,e,_,z7⟩:=Ze _ (.head _);rw[e];exact F1 z7
   refine IG (λT hT=>?_) (H4 (λT hT=>?_) ZV)
   ·refine eA (Ze T hT) λv t0 e _=>?_;rw[<-Zw] at hT;obtain⟨p,hp,e'⟩:=P1.mp hT;have y:=hr p hp;rw[e',e] at y;exact(rS v t0 e y)
   exact dg (Ze T hT) λv t0 e h2 _=>rR e h2
  have c8:(a6,O.list ((es.map (·.2)).map V.ref))∈(a6,O.list (es.map rf))::X5:=by rw[QA];exact .head _
  have i8:Le Y g5 J U5 M ((a6,O.list (es.map rf))::X5):=ar.trans .new;obtain⟨z1,z2,z3⟩:=iG (L:=cY es);have sm:=Cf il;have XO:en (ex (bL (cY es)))<64:=PJ (rR z2 (ID Xj.n (ID (zY (P2 ks)) (PI sm.2.1)))) cd;have YO:eb (ex (bL (cY es)))<64:=PJ (rR z1 (ID Xj.b (ID (zY (P2 ks)) (PI sm.1)))) he;have TW:∀n,tl (.tup n (bL (cY es)))=tl (bL (cY es)):=λn=>by show oI (lst (bL (cY es))) false false++_=_;refine rR dB (rR x7 ?_);rfl
  have Yj:eH (bL (cY es))=true:=n9 λx u=>.inr (Xj.x x u);refine jb (c:=c.add (o,.list (ps.map rf))) (kind:=86) (fl:=0) (d:=D+6) (b:=b+71+eK ((aF L).drop s')) ck.add ((s5.new (o:=.list (es.map rf)) h6).dec (O3 (Nat.sub_pos_of_lt ks) (ID (TG ..) (ID sn hl)))) (vl.mono (.new (p:=(a6,O.list (es.map rf))))) (λn=>.tup n (bL (cY es))) c8 (λh s=>⟨h,s⟩) (λo=>⟨λx u=>?_,o⟩) ⟨⟨Yj,by rw[dB,WO];exact lq (aO hl (aO sn (iq (P2 ks)).1))⟩,λx u=>by rw[dB] at u;exact Xj.x x u,(vl.mono (.new (p:=(a6,O.list (es.map rf))))).ok,XO,YO⟩ (λat_ is Z z=>z _ _ _ at_ is) (λx u=>(vl.mono (.new (p:=(a6,O.list (es.map rf))))).tl x (sB (TW _) u)) (λr=>r) λU8 a8 p8 ZM VN s8 v8=>?_
  ·rw[dB] at u;refine am (P1.mp u) λp hp ZO=>?_;subst ZO;exact Qq (v5 p hp).2
  refine bk (.append (s8.pop.h.loc (.head _))) λa9 h9=>jb (c:=c.add (o,.list (ps.map rf))) (kind:=87) (fl:=8192) (d:=D+6) (b:=b+70+eK ((aF L).drop s')) ck.add ((s8.new (o:=.list ([a8].map V.ref)) h9).dec dA) (v8.mono (.new (p:=(a9,O.list ([a8].map V.ref))))) (λn=>.el n 2 (.tup (g5.nid+1) (bL (cY es)))) (.head _) (λh s=>⟨h,s⟩) (λo=>⟨QF _,o⟩) ⟨(v8.mono (.new (p:=(a9,O.list ([a8].map V.ref))))).ok,rfl,PD _,λø=>rfl⟩ (λat_ is Z z=>z _ _ _ at_ is) (v8.mono (.new (p:=(a9,O.list ([a8].map V.ref))))).tl (λr=>r) λx8 wx z8 c9 VP WP i9=>kJ (.append (WP.pop.h.loc (.head _)) (ol tp.ln) (wExpr rfl (q s' (ps++[(.el (g5.nx.nid+1) 2 (.tup (g5.nid+1) (bL (cY es))),wx)]) g5.nx.nx x8 (z8::(a9,O.list ([a8].map V.ref))::p8::(a6,O.list (es.map rf))::X5) _ _ _ ks sn ?_)));refine tp.step (((i8.trans VN).trans .new).trans VP) WP i9 (PD _) (Xj.run ne ro) (λø=>.run Xj.br λT hT=>?_) (λz=>?_) (λx u=>?_) (λz=>VC (z.symm.trans e1) dD) (pM (P2 ks)) ks (PJ ar.nid (Q0 (QF _) (QF _))) (λx u=>Q9 (Qq (QI (s5.id x u))))
  ·obtain⟨v,t0,e,_⟩:=Ze T hT;refine rR e ?_;rfl
  ·exact z.elim (VC hres0) λy=>VC (y.symm.trans e1) dD
  refine(Z6 x u).elim (λm=>.inl (sB W6 m)) λZP=>am ZP λp hp m=>.inr (?_:x∈tl (.tup (g5.nid+1) (bL (cY es))));rw[TW];exact rP.mpr (aK p.1 (P1.mpr ⟨p,hp,rfl⟩) m)
 ·exact cw .lt (rR (Qb (Su.mpr (Rb i))) (af (af (Xc .refl rfl rfl YV))))
theorem na:∀{T:Tm},fd T<=4*(me T).1.h
 |.nil=>PD _
 |.cons a r=>RH.mpr ⟨ID na (QC 4 (QY ..)),ID na (QC 4 (Rd ..))⟩
 |.leaf _=>P6 rfl
 |.uni l=>PX (na (T:=l)) 4
 |.int l=>PX (na (T:=l)) 4
 |.arr l=>PX (na (T:=l)) 4
 |.tup l=>PX (na (T:=l)) 4
 |.ro l=>PX (na (T:=l)) 4
 |.el _ l=>na (T:=l)
theorem xL:∀{L:Tm},jm L=true->eK (aF L)=(me L).1.b/\gX (aF L)=(me L).1.t
 |.nil,_=>⟨rfl,rfl⟩
 |.cons a r,h=>have i:=xL (L:=r) h;⟨PR ((me a).1.b+ ·) i.1,PR ((me a).1.t+ ·) i.2⟩
 |.leaf _,h=>VC h PC
 |.uni _,h=>VC h PC
 |.int _,h=>VC h PC
 |.arr _,h=>VC h PC
 |.tup _,h=>VC h PC
 |.ro _,h=>VC h PC
 |.el _ _,h=>VC h PC
theorem Kh{xs:List (Tm×V)}{D:Nat}{T num:V}(ck:ai c)(hf:f<=1)(eL:aF L=xs.map (·.1))(hl:xs.length<=60)(hx:∀p∈xs,∀B,ai B->Kd B l ns f X (me L).1.h p)(n:fk (xs.map (·.1)) false false 0=res)(A:T=.int (-1)/\res=none\/∃i:Nat,T=nV i/\res≠none)(he:(me L).1.e<64)(w:en L<64)(il:jm L=true)(hD:60*(me L).1.h+35<=D)(hd:g.deep+3*(me L).1.h<=60)(mk:(K,O.list (xs.map (·.2)))∈X)(q:∀N v s u r j m,Tp c f g U X L res (b+70) t xs.length o N v s u r->KF .next [some (.ref c.w),some (.ref K),some (nV f),some T,some num,some (.ref o),some (nV xs.length),j,m,none] r):
  ∀a k ps Y J M σ j m,xs.length-k<a->k<=xs.length->Tp c f g U X L res (b+70) t k o ps Y J M σ->jV (cP (aa l ns) (ad (aa l ns) D) kA) (fS (aa l ns) (ad (aa l ns) D) g6) KF a [some (.ref c.w),some (.ref K),some (nV f),some T,some num,some (.ref o),some (nV k),j,m,none] σ:=by
 intro a
 induction a with
 |zero=>exactλk ps Y J M σ j m h=>VC h (Sf _)
 |succ a ih=>
  intro k ps Y J M σ j m x hk tp;refine kX (.lenL (tp.s.h.loc (tp.le.mem _ mk)) (cO rfl (ID hl dD):(xs.map (·.2)).length<=lim) (ez (az (λz=>?_) λz=>?_)))
  ·have z:k<xs.length:=P5 z (PI (PL _));exact H8 ck hf eL hl z hx n A he w il hD hd mk tp λk' N v s u r j m h1 h2 y=>ih k' N v s u r j m (lq (aO x (aO h1 (aO (iq h2).1 (iq (P2 z)).2)))) h2 y
  have e:k=xs.length:=Qz hk (by rw[PL] at z;exact QU z);subst e;exact q ps Y J M σ j m tp
theorem JD(u:Option (Nat×Nat)):∃N num,Ot u=.tup [N,num]/\(N=.int (-1)/\u=none\/∃i m:Nat,N=nV i/\num=nV m/\u=some (i,m)):=by
 cases u with
 |none=>exact rS _ _ rfl (.inl ⟨rfl,rfl⟩)
 |some p=>exact rS _ _ rfl (.inr (ng p.1 p.2 rfl rfl rfl))
theorem Nc(ck:ai c)(hf:f<=1){L:Tm}(hw:∀c',ai c'->∀s T,Tm.el s T∈aF L->gg c' l ns f T):fq c l ns f (.tup L):=λ{D g b t X σ U Q v} hD ok om s hd is q=>by
 have hD:60*((me L).1.h+1)+15<=D:=hD;obtain⟨D,rfl⟩:=zb (n:=D) (k:=15) (lq hD);have hd:g.deep+3*((me L).1.h+1)<=60:=hd;have s:St c g (b+((me L).1.b+((me L).1.s+270))) (t+((me L).1.t+1)) X σ U:=s;refine dg is λK us e Zg Wr=>?_;obtain rfl:=(QB e).1;have il:=ok.1;have el:=ok.2.2.1;have lf:=ok.2.2.2.1;have cd:=ok.2.2.2.2.1;have he:=om.1;have x9:=na (T:=L);refine ah (F:=cX) rfl rfl (ag (b:=1) (sY (d:=D+13) (b:=b+((me L).1.b+((me L).1.s+270))-1) ck hf (s.dec Os) λg' how ma h8 h7 en ew le s'=>bx rfl (ag (a:=4) (b:=0) (af (bx rfl (ez (a:=4) (b:=3) (af (bx rfl (ag (a:=4) (b:=4) (aq (bx rfl ?_)))))))))));have vk:=aV le.mem Wr;refine ah (F:=oR) rfl rfl (CI (D:=D+13) ck (lq (aO hD x9)) lf il ok.2.1 el s'.h (le.mem _ Zg) vk λG h2=>?_);have s2:St c g' (b+((me L).1.b+((me L).1.s+270))-1) (t+((me L).1.t+1)) X G U:=⟨h2,s'.go,s'.bd,s'.nd,s'.id⟩;refine PO (nJ il vk) λxs hQ=>EG hQ λVQ e2 j _=>?_;subst VQ;have hl:xs.length<=60:=by refine sB (PL (as:=xs) (·.1)) (sB e2 ?_);exact om.2.1
 have kd:∀p∈xs,∀c',ai c'->Kd c' l ns f X (me L).1.h p:=λp hp c' z9=>by have hm:=j p hp;obtain⟨T,v⟩:=p;refine i5 (BA (el _ hm.1)) λs1 T1 e6=>?_;subst e6;refine am hm.2 λu Xr Yr=>?_;obtain rfl:=(QB Xr).1;exact⟨s1,T1,u,rfl,Yr,sD (P:=g4) (λø ø h=>h) hm.1 lf,(As hm.1 om.2.2:oo (.el s1 T1)),(vc hm.1:(me (.el s1 T1)).1.h<=_),hw c' z9 s1 T1 hm.1⟩
 have eL:aF L=xs.map (·.1):=e2;generalize Ye:fk (aF L) false false 0=res;refine eA (JD res) λsp num efk Ww=>?_;simp only[efk];refine⟨_,_,rfl,λo ho=>⟨xs.length+1,?_⟩⟩;refine Kh (g:=g') (U:=U) (X:=X) (b:=b+((me L).1.s+140)+10+5) (t:=t+1) (o:=o) ck hf eL hl kd (sB eL Ye) (Ww.imp_right λz1=>dg z1 λi m Zr _ e=>⟨i,Zr,by exact rR e (λz=>nomatch z)⟩) he cd il (lq hD) (lq (aO hd (fW (le.deep:g'.deep=g.deep)))) (le.mem _ Zg) (λps Y J M C w7 w8 tp=>?_) _ 0 [] g' U X _ none none (by lia) (PY _)
  ⟨.refl,(((s2.new (o:=.list (([]:List (Nd×Addr)).map rf)) ho).push).dec (by simp only[Tx,(xL il).1];exact Oz)).dt (by refine rR Tx (rR ((xL il).2) ?_);exact dA),bP,.nil,λø=>.nil,λø=>rfl,λx j=>.inl j,λø=>rfl,PD _,bP⟩;have lL:(aF L).length=xs.length:=by simp only[eL,PL]
 have tkn:(aF L).take xs.length=aF L:=R5 (PI lL);have B:=tp.el;have VW:=tp.fn;have WW:=tp.fa;have XW:=tp.ex;simp only[tkn] at B VW WW XW;have A:=tp.s.pop;have va4:=λp hp=>(tp.va p hp).1.mono (.new (g:=Y) (U:=J) (p:=(o,O.list (ps.map rf))));have vl:=uq va4;have sp4:=λn=>B.tup (n:=n) il (Cf il);have Zj:=iG (L:=cY ps);have z2:=Zj.2.1;have z3:=Zj.2.2;have mk5:(o,O.list ((ps.map (·.2)).map V.ref))∈(o,O.list (ps.map rf))::M:=by exact rR QA (.head _)
 have Yj:eH (bL (cY ps))=true:=n9 λx j=>.inr (B.x x j);have Za:∀{g5:bM}{tg:Hp},Le g' g5 U J X ((o,O.list (ps.map rf))::M)->Va g5 J ((o,O.list (ps.map rf))::M) (bL (cY ps)) (ps.map (·.2))->g5.nid=Y.nid->(∀x∈g5.wt,x∈Y.wt\/x∈oI (cY ps) false false)->(∀x∈oI (cY ps) false false,x∈g5.wt)->St c g5 (b+((me L).1.s+140)+10+1) t ((o,.list (ps.map rf))::M) tg J->ad (aa l ns) (D+13) 1255 [.ref c.w,.int 86,.str "",.ref o,.int 0] tg Q:=λ{g5 tg} Wf v5 YW w5 f5 s5=>by
  refine jb (kind:=86) (fl:=0) (d:=D+9) ck s5 v5 (λn=>.tup n (bL (cY ps))) mk5 (λh s=>⟨h,s⟩) (λo=>⟨λx j=>?_,o⟩) ⟨⟨Yj,by simp only[dB,PL];exact ID tp.ln (ID hl dD)⟩,λx j=>by simp only[dB] at j;exact B.x x j,v5.ok,PJ (rR z2 (ID B.n (PI (Cf il).2.1))) cd,PJ (rR Zj.1 (ID B.b (PI (Cf il).1))) he⟩ (λat_ is Z z=>z _ _ _ at_ is) (λx j=>?_) (λr=>r) λU6 a6 p6 Zv Sg s6 v6=>?_
  ·simp only[dB] at j;refine PO (P1.mp j) λp Ws=>?_;have hp:=Ws.1;obtain rfl:=Ws.2;exact Qq (ID (tp.va p hp).2 (PI YW.symm))
  ·have j:x∈oI (lst (bL (cY ps))) false false++tl (bL (cY ps)):=j;simp only[dB] at j;exact(P3.mp j).elim (f5 x) (v5.tl x)
  refine((q:hH c g (b+((me L).1.s+140)+10) t X U 1 f (.tup L) true Q).from le en ew) _ U6 _ _ a6 Zv (Wf.trans Sg) s6 v6 (sp4 _) ⟨rfl,?_,PD _,λx j=>?_,λz=>?_⟩ λø=>rfl
  ·show g'.nid<g5.nid+1;exact Qq (ID tp.le.nid (PI YW.symm))
  ·show x∈g'.wt\/x∈oI (lst (bL (cY ps))) false false++tl (bL (cY ps));simp only[dB];refine RD (w5 x j) (λm=>?_) λm=>?_
   ·exact(tp.wt x m).imp_right λz2=>by exact am z2 λp hp z=>PK _ (rP.mpr (aK p.1 (P1.mpr ⟨p,hp,rfl⟩) z))
   exact .inr (PZ _ m)
  show Tm.tup (ex (bL (cY ps)))=.tup L;simp only[DG,XW z,kc il]
 rcases Ww with ⟨rfl,rn⟩|⟨i,m,rfl,rfl,rs⟩
 ·have f0:oI (cY ps) false false=[]:=by
   refine PO (VW rn false false false 0 (λh=>h) (by simp only[Ye,rn])) λlM WQ=>?_;have e:=WQ.2;have z:=e [];simp only[Qm] at z;exact z
  exact cw .ge (af (Za (tp.le.trans .new) vl rfl (λx j=>.inl j) (λx j=>VC (sB f0 j) PH) ((A.dec dA).dt dA)))
 have XQ:=(Dy (k:=0) (WW (.inl (by simp only[rs];exactλz=>nomatch z)))).2 i m (Ye.trans rs);refine am XQ.2 λN eN Xs=>?_;simp only[Vv] at eN;obtain⟨p,hp,rfl⟩:∃p,ps[i]?=some p/\p.1=N:=by simp only[QS] at eN;refine PO (QZ.mp eN) λp Zs=>?_;have hp:=Zs.1;have e:=Zs.2;exact(aK p hp e)
 have Wc:=QO hp;have hi:i<ps.length:=(Qi.mp hp).1;refine k6 (xf (B.x p.1 (P1.mpr ⟨p,Wc,rfl⟩))) λn0 s0 k0 e0=>?_;have aw:=(tp.va p Wc).1.is;have EA:=tp.fr p Wc;have Wx:=(tp.va p Wc).2;simp only[e0] at aw EA Wx Xs;have EA:g'.nid<n0/\∀x∈Y.wt,x.2≠n0:=EA;have Wx:n0<=Y.nid:=Wx;have Xs:oI (cY ps) false false=[(m,n0)]:=Xs;refine aw _ λks dx ka at0 ø=>cw .ge ?_;have gi:(ps.map rf)[i]?=some (V.ref p.2):=(QS ..).trans (by simp only[hp];rfl);refine aq (rM A.h.c_w (P7.mpr ⟨bJ _,rfl⟩) rfl (bk (.append A.h.c_wt) (cm (A.h.loc (.head _)) (P5 hi (ID tp.ln (ID hl dD))) gi (aW (A.h.loc (.tail _ at0.nd)) rfl rfl (kJ (.append A.h.c_wt ?_ (wExpr rfl ?_)))))))
 ·exact ID (PI (PL _)) (ID (ID (PM _ _) A.h.bw) dD)
 have s4':St c Y (b+((me L).1.s+140)+10+1) (t+1) ((o,.list (ps.map rf))::M) C J:=(A.dec dA).dt dA;have h5:=s4'.h.s_wt (m,n0);simp only[PU] at h5;have v5:Va {Y with wt:=Y.wt++[(m,n0)]} J ((o,O.list (ps.map rf))::M) (bL (cY ps)) (ps.map (·.2)):=⟨vl.sub,vl.old,vl.ok,vl.is,λx j=>PZ _ (vl.tl x j),vl.rf⟩;have w:=tp.le.trans (.new (p:=(o,O.list (ps.map rf))));refine Za (g5:={Y with wt:=Y.wt++[(m,n0)]}) ⟨w.up,w.nid,w.rows,w.keep,w.told,λx j=>PZ _ (w.wt x j),w.deep,λx j=>(P3.mp j).elim (w.wlo x) λz=>by cases PG.mp z;exact .inr EA.1,w.x⟩ v5 rfl (λx j=>(P3.mp j).imp_right λz=>by simp only[Xs];exact z) (λx j=>by simp only[Xs] at j;exact PK _ j)
  ⟨h5,⟨A.go.wf,A.go.pos,A.go.cache,λx j=>PZ _ (A.go.sub x j),A.go.nd⟩,A.bd,Q8.mpr ⟨A.nd,QK.mpr ⟨PH,.nil⟩,λx j y hy e=>by cases PG.mp hy;exact EA.2 x j (by simp only[e])⟩,bh (P:=λx:Nat×Nat=>x.2<=Y.nid) A.id Wx⟩
end
end
theorem CM(h:g4 T->oo T->fq c l ns f T):fq c l ns f T:=λa a a a a a a a a b x r=>h x r b x r
def Pl(l:Addr)(ns:Z9)(f:Nat)(T:Tm):=∀c,ai c->fq c l ns f T
structure AllP(l:Addr)(ns:Z9)(f:Nat)(T:Tm):Prop where
 p:dP T=true->Pl l ns f T
 k:∀s t,T=.el s t->dP t=true->Pl l ns f t
 l:∀x∈aF T,(dP x=true->Pl l ns f x)/\∀s t,x=.el s t->dP t=true->Pl l ns f t
theorem NZ(j:f<=1)(T:Tm):AllP l ns f T:=by
 have nl:∀{x:Tm}{P:Prop},x∈([]:List Tm)->P:=λh=>VC h PH;have g:∀{P:Prop},false=true->P:=λh=>VC h PC;have q:∀{c:cR}{T:Tm},ai c->dP T=true->Pl l ns f T->gg c l ns f T:=λk o p=>zg k j o (p _ k);induction T with
 |nil=>exact⟨g,λs t e=>(nomatch e),λx h=>nl h⟩
 |cons a r iha ihr=>exact⟨g,λs t e=>(nomatch e),λx h=>(P0.mp h).elim (λe=>e▸⟨iha.p,iha.k⟩) (ihr.l x)⟩
 |leaf i=>exact⟨λb c k=>L9 k j,λs t e=>(nomatch e),λx h=>nl h⟩
 |uni L m=>exact⟨λb c k=>CM (T:=.uni L) λy v=>Hb (u:=true) k j (λx n=>q k (y.2.2.2.2 x n) ((m.l x n).1 (y.2.2.2.2 x n))) λy v=>⟨y.2.2.2.1,v.2.2.2,y.1,v.1,v.2.2.1,v.2.1,λh=>VC h.symm PC⟩,λs t e=>(nomatch e),λx h=>nl h⟩
 |int L m=>exact⟨λb c k=>CM (T:=.int L) λy v=>Hb (u:=false) k j (λx n=>q k (y.2.2.2.2.2.2 x n) ((m.l x n).1 (y.2.2.2.2.2.2 x n))) λy v=>⟨y.2.2.2.1,v.2.2.2,y.1,v.1,v.2.2.1,v.2.1,λb=>y.2.2.2.2.1⟩,λs t e=>(nomatch e),λx h=>nl h⟩
 |arr t m=>exact⟨λb c k=>CM (T:=.arr t) λy v=>Nk k j (q k y.2.1 (m.p y.2.1)),λs t e=>(nomatch e),λx h=>nl h⟩
 |ro t m=>refine⟨λb c k=>CM (T:=.ro t) λy v=>?_,λs t e=>(nomatch e),λx h=>nl h⟩;exact v.2.2.1.elim (λz=>Nl k j z (m.p y.2.1 c k)) λA=>NO k j A (q k y.2.1 (m.p y.2.1))
 |tup L m=>refine⟨λb c k=>CM (T:=.tup L) λy v=>Nc k j λw U s T Y=>?_,λs t e=>(nomatch e),λx h=>nl h⟩;have o:=sD (P:=g4) (λb b h=>h) Y y.2.2.2.1;exact@q w T U o.2.2.1 ((m.l _ Y).2 s T rfl o.2.2.1)
 |el s t m=>exact⟨g,λs t e=>by cases e;exact m.p,λx h=>nl h⟩
theorem Ak(k:ai c)(i:f<=1)(o:dP T=true):fq c l ns f T:=(NZ i T).p o c k
theorem D6(k:ai c)(i:f<=1)(o:dP T=true):gg c l ns f T:=zg k i o (Ak k i o)
end
mutual
structure Mg(T:Tm):Prop where
 p:pb T<=(me T).1.p
 e:eb T<=(me T).1.e
 n:en T<=(me T).1.e
 l:2*(lb T).1<=(me T).1.s
 m:2*(lb T).2<=(me T).1.s
 d:ht T<=(me T).1.h
 f:fd T<=4*(me T).1.h
theorem Ag:∀{T:Tm},dP T=true->g4 T->1<=(me T).1.p
 |.leaf i,_,_=>by show 1<=if i=10 then 2 else 1;by_cases h:i=10<;>simp [h]
 |.uni l,_,_=>Ra _
 |.int l,_,_=>Ra _
 |.arr t,_,_=>Ra _
 |.tup t,_,_=>Ra _
 |.ro t,_,o=>Ag (T:=t) o.2.1 o.1
 |.nil,h,_=>VC h PC
 |.cons _ _,h,_=>VC h PC
 |.el _ _,h,_=>VC h PC
theorem d2(h:2*a<=b)(z:2*j<=k):2*(a+j)<=b+k:=Nat.mul_add 2 a j▸Qu h z
theorem mx{a b x y:Nat}(h:a<=x)(z:b<=y):max a b<=max x y:=RH.mpr ⟨ID h (QY ..),ID z (Rd ..)⟩
theorem f4(h:a<=4*b):a+4<=4*(b+1):=PX h 4
theorem jd:∀(T:Tm),g4 T->Mg T
 |.nil,_=>⟨PD _,PD _,PD _,PD _,PD _,PD _,PD _⟩
 |.cons a r,o=>have A:=jd a o.1;have R:=jd r o.2;⟨Qu A.p R.p,Qu A.e R.e,Qu A.n R.n,d2 A.l R.l,d2 A.m R.m,mx A.d R.d,
   RH.mpr ⟨ID A.f (QC 4 (QY ..)),ID R.f (QC 4 (Rd ..))⟩⟩
 |.leaf i,_=>⟨PD _,PD _,PD _,PY _,PY _,PY _,P6 rfl⟩
 |.uni l,o=>have A:=jd l o.2.2.2.1;⟨ID A.p (ID (PM _ _) (Qt _)),PD _,PD _,ID A.l (ID (PM _ _) (PM _ _)),PY _,QI A.d,f4 A.f⟩
 |.int l,o=>have A:=jd l o.2.2.2.1;⟨PI (PW o.2.2.2.2.1),PD _,PD _,PY _,PY _,PY _,f4 A.f⟩
 |.arr t,o=>have A:=jd t o.1;⟨PD _,A.p,Ag o.2.1 o.1,d2 A.l dD,d2 A.l dD,Qn A.d,f4 A.f⟩
 |.tup l,o=>have A:=jd l o.2.2.2.1;⟨PD _,A.e,A.n,d2 A.m dD,ID A.m (PM _ _),Qn A.d,f4 A.f⟩
 |.ro t,o=>have A:=jd t o.1;⟨A.p,A.e,A.n,ID A.l (PM _ _),ID A.m (PM _ _),QI A.d,f4 A.f⟩
 |.el s t,o=>by
  have A:=jd t o.2.1;refine⟨Ag (T:=t) o.2.2.1 o.2.1,?_,?_,PY _,?_,A.d,A.f⟩
  ·show(if s=2 then eb t else pb t+(if s=1 then 1 else 0))<=if s=2 then _ else _;by_cases h:s=2
   ·exact rR (PW h) (rR (PW h) A.e)
   exact rR (PV h) (rR (PV h) (PX A.p _))
  ·show(if s=2 then en t else 1)<=if s=2 then _ else _;by_cases h:s=2
   ·exact rR (PW h) (rR (PW h) A.n)
   exact rR (PV h) (rR (PV h) (ID (Ag o.2.2.1 o.2.1) (PM _ _)))
  show 2*(if s=2 then(lb t).2 else(lb t).1+20)<=_;by_cases h:s=2
  ·exact rR (PW h) (ID A.m (PM _ _))
  exact rR (PV h) (d2 A.l dD)
structure Bg(B:Me)(T:Tm):Prop where
 ok:g4 T
 om:oo T
 p:(me T).1.p<=B.p
 e:(me T).1.e<=B.e
 h:(me T).1.h<=B.h
 s:(me T).1.s<=B.s
 t:(me T).1.t<=B.t
 b:(me T).1.b<=B.b
def Me.le(A B:Me):Prop:=A.p<=B.p/\A.e<=B.e/\A.h<=B.h/\A.s<=B.s/\A.t<=B.t/\A.b<=B.b
noncomputable def Me.x(k:Nat)(B:Me):Me:=⟨k*B.p,k*B.e,B.h,k*B.s,k*B.t,k*B.b⟩
theorem Bg.mono(a:Bg A T)(h:A.le B):Bg B T:=⟨a.ok,a.om,ID a.p h.1,ID a.e h.2.1,ID a.h h.2.2.1,ID a.s h.2.2.2.1,ID a.t h.2.2.2.2.1,ID a.b h.2.2.2.2.2⟩
theorem C6(h:a<=B)(z:b<=k*B):a+b<=(k+1)*B:=UL k B▸RP a b▸Qu z h
theorem Bg.list:∀{k:Nat}{L:List Tm},(∀x∈L,Bg B x)->L.length=k->Bg (B.x k) (toT L)/\jm (toT L)=true/\aF (toT L)=L/\(me (toT L)).2.p<=B.p/\(me (toT L)).2.s<=B.s/\(me (toT L)).2.t<=B.t/\(me (toT L)).2.b<=B.b
 |0,[],_,_=>⟨⟨trivial,trivial,PY _,PY _,PY _,PY _,PY _,PY _⟩,rfl,rfl,PY _,PY _,PY _,PY _⟩
 |k+1,a::L,h,e=>by have i:=Bg.list (L:=L) (λx j=>h x (.tail _ j)) (Sl e);have A:=h a (.head _);exact⟨⟨⟨A.ok,i.1.ok⟩,⟨A.om,i.1.om⟩,C6 A.p i.1.p,C6 A.e i.1.e,RH.mpr ⟨A.h,i.1.h⟩,C6 A.s i.1.s,C6 A.t i.1.t,C6 A.b i.1.b⟩,i.2.1,PR (a:: ·) i.2.2.1,A.p,A.s,A.t,A.b⟩
end
section
variable{B:Me}{T:Tm}{k:Nat}{L:List Tm}
mutual
noncomputable def Me.uni(k:Nat)(B:Me):Me:=⟨k*B.p+B.p+1,0,B.h+1,k*B.s+B.s+8,k*B.t+B.t,k*B.b+B.b+(k*B.s+B.s+138)⟩
noncomputable def Me.int(k:Nat)(B:Me):Me:=⟨13,0,B.h+1,k*B.s+B.s+208,k*B.t+B.t,k*B.b+B.b+(k*B.s+B.s+338)⟩
noncomputable def Me.arr(B:Me):Me:=⟨1,B.p,B.h+1,B.s+140,B.t,B.b+(B.s+270)⟩
noncomputable def Me.tup(k:Nat)(B:Me):Me:=⟨1,k*B.e,B.h+1,k*B.s+140,k*B.t+1,k*B.b+(k*B.s+270)⟩
noncomputable def Me.ro(t:Nat)(B:Me):Me:=⟨B.p,B.e,B.h+1,B.s+140,B.t+t,B.b+(B.s+270)⟩
noncomputable def Me.el(s:Nat)(B:Me):Me:=⟨B.p,if s=2 then B.e else B.p+1,B.h,B.s+135,B.t,B.b+20⟩
theorem wQ{a b x y:Nat}(h:a<=x)(z:b<=y):a+b<=x+y:=Qu h z
theorem nn(h:L.length=k)(C:0<k):toT L≠.nil:=by
 induction L with
 |nil=>subst h;exact VC C (RN 0)
 |cons a r=>exactλz=>nomatch z
theorem Bg.uni(h:∀x∈L,Bg B x/\dP x=true)(e:L.length=k)(C:0<k)(c:k<=60)(v:k*B.p+B.p+1<64):Bg (B.uni k) (.uni (toT L)):=by
 refine Ji (Bg.list (λx j=>(h x j).1) e) λb i el g l t f4=>?_;have n:(aF (toT L)).length<=60:=by exact(Qe (el))▸(rR e c)
 exact⟨⟨i,ID n dD,PJ (ID (jd _ b.ok).p (ID b.p (ID (PM _ B.p) (Qt _)))) v,b.ok,λx j=>(h x ((el)▸j)).2⟩,
  ⟨nn e C,PJ (PX (wQ b.p g) 1) v,ID n dD,b.om⟩,PX (wQ b.p g) 1,PD 0,Qn b.h,PX (wQ b.s l) 8,wQ b.t t,wQ (wQ b.b f4) (PX (wQ b.s l) 138)⟩
theorem Aa(h:∀x∈L,bu x=true):bu (toT L)=true:=by
 induction L with
 |nil=>rfl
 |cons a r ih=>exact P7.mpr ⟨h a (.head _),ih λx i=>h x (.tail _ i)⟩
theorem Bg.int(h:∀x∈L,Bg B x/\dP x=true/\bu x=true)(e:L.length=k)(C:0<k)(c:k<=60)(v:k*B.p+B.p+13<64):Bg (B.int k) (.int (toT L)):=by
 refine Ji (Bg.list (λx j=>(h x j).1) e) λb i el g l t f4=>?_;have n:(aF (toT L)).length<=60:=by exact(Qe (el))▸(rR e c)
 exact⟨⟨i,ID n dD,PJ (ID (jd _ b.ok).p (ID b.p (ID (PM _ B.p) (PM _ 13)))) v,b.ok,Aa λx j=>(h x j).2.2,nn e C,λx j=>(h x ((el)▸j)).2.1⟩,
  ⟨nn e C,PJ (PX (wQ b.p g) 13) v,ID n dD,b.om⟩,PD 13,PD 0,Qn b.h,PX (wQ b.s l) 208,wQ b.t t,wQ (wQ b.b f4) (PX (wQ b.s l) 338)⟩
theorem C0(m:2*n<=(me T).1.s)(s:(me T).1.s<=B.s)(hs:B.s<=90000):n<=90000:=ID (UK n dD) (ID m (ID s hs))
theorem Bg.arr(b:Bg B T)(o:dP T=true)(v:B.p<64)(hs:B.s<=90000):Bg B.arr (.arr T):=
 ⟨⟨b.ok,o,C0 (jd T b.ok).l b.s hs,PJ (ID (jd T b.ok).p b.p) v⟩,⟨PJ b.p v,b.om⟩,PD 1,b.p,Qn b.h,PX b.s 140,b.t,wQ b.b (PX b.s 270)⟩
theorem Bg.tup(h:∀x∈L,Bg B x/\IP x=true)(e:L.length=k)(c:k<=60)(r:k*B.e<64)(hs:k*B.s<=90000):Bg (B.tup k) (.tup (toT L)):=by
 refine Ji (Bg.list (λx j=>(h x j).1) e) λb i el g l t f4=>?_;have n:(aF (toT L)).length<=60:=by exact(Qe (el))▸(rR e c)
 exact⟨⟨i,ID n dD,λx j=>(h x ((el)▸j)).2,b.ok,PJ (jd _ b.ok).n (PJ b.e r),PJ (jd _ b.ok).e (PJ b.e r),C0 (jd _ b.ok).m b.s hs⟩,⟨(PJ b.e r),n,b.om⟩,PD 1,b.e,Qn b.h,PX b.s 140,Qn b.t,wQ b.b (PX b.s 270)⟩
theorem Bg.ro{t:Nat}(b:Bg B T)(o:dP T=true)(s:Ky T=true/\gw T=true\/GW T=true/\bu T=true/\t=1)(v:B.p<64)(r:B.e<64)(hs:B.s<=90000):Bg (B.ro t) (.ro T):=
 have m:=jd T b.ok
 ⟨⟨b.ok,o,s.imp (·.2) λh=>⟨h.1,h.2.1⟩,C0 m.m b.s hs,PJ (ID m.n b.e) r,PJ (ID m.e b.e) r,PJ (ID m.p b.p) v⟩,
  ⟨PJ b.e r,PJ b.p v,s.imp (·.1) (·.1),b.om⟩,b.p,b.e,Qn b.h,PX b.s 140,by
  refine wQ b.t ?_
  show(if gw T=true then 0 else 1)<=t
  rcases s with ⟨_,h⟩|⟨_,_,h⟩
  ·exact rR (PW h) (PY _)
  ·refine rR h ?_;by_cases z:gw T=true
   ·exact rR (PW z) (PY _)
   refine rR (PV z) ?_;exact PD 1,wQ b.b (PX b.s 270)⟩
theorem Bg.el{s:Nat}(b:Bg B T)(o:dP T=true)(hs:s<=2)(r:s=2->gw T=true):Bg (B.el s) (.el s T):=
 ⟨⟨hs,b.ok,o,r⟩,b.om,b.p,by
  show(if s=2 then(me T).1.e else(me T).1.p+(if s=1 then 1 else 0))<=if s=2 then _ else _;by_cases h:s=2
  ·refine rR (PW h) (rR (PW h) ?_);exact b.e
  refine rR (PV h) (rR (PV h) ?_);refine Qu b.p ?_;by_cases z:s=1
  ·exact rR (PW z) (PD 1)
  refine rR (PV z) ?_;exact PY 1,b.h,PX b.s 135,b.t,PX b.b 20⟩
theorem Bg.leaf(h:i<15):Bg ⟨2,0,1,8,0,30⟩ (.leaf i):=⟨h,trivial,by show(if i=10 then 2 else 1)<=2;by_cases z:i=10<;>simp [z],PD 0,PD 1,PD 8,PD 0,PD 30⟩
end
end
@[reducible] noncomputable def bM.aj(g:bM)(j:Nat):bM:={g with at_:=j}
section
variable{c:cR}{g:bM}{b t d j k n:Nat}{X Y:Y8}{σ:Hp}{Q:KV}{l:Addr}{ns:Z9}{ρ:Env}
section
variable{i:Nat}{P:Tm->Prop}{U:oX}
def G7(c:cR)(g:bM)(b t:Nat)(X:Y8)(P:Tm->Prop)(Q:KV):=∀j Y T v o,H c (g.aj j) b t (Y++X) o->bS Y T [v]->P T->Q v o
def MH(c:cR)(g:bM)(b t:Nat)(X:Y8)(n:Nat)(P:Tm->Prop)(Q:KV):=∀j Y L vs a o,H c (g.aj j) b t ((a,.list vs)::(Y++X)) o->bS Y (toT L) vs->L.length=n->(∀x∈L,P x)->Q (.ref a) o
def mE(c:cR)(l:Addr)(ns:Z9)(f:Addr)(as:Z7)(k d:Nat)(P:Tm->Prop):=∀⦃D g b t X σ Q j⦄,d<=D->H c (g.aj j) (b+k) t X σ->G7 c g b t X P Q->ad (aa l ns) D f (.ref c.d::as) σ Q
theorem uh(h:∀p∈Y,p∈Z)(q:bS Z T [v]):∀{L:List Tm}{vs:Z7},bS Y (toT L) vs->bS Z (toT (L++[T])) (vs++[v])
 |[],vs,e=>by exact rR (show vs=[] from e) ⟨v,[],rfl,q,rfl⟩
 |a::L,vs,⟨x,xs,e,ha,hr⟩=>by subst e;exact⟨x,xs++[v],rfl,aV h ha,uh h q hr⟩
theorem CW(m:n<=60)(h:H c (g.aj j) (b+n*k) t X σ)(step:∀x j b Y σ R,H c (g.aj j) (b+k) t (Y++X) σ->G7 c g b t (Y++X) P R->U (set ρ i x) σ R)(o:MH c g b t X n P Q):iA U (.one i) (Bv (aa l ns) (ad (aa l ns) d) .nil) ρ Q (.rng n) σ:=by
 refine oM (f:=nV) (xs:=List.range n) (.rng (ID m dD)) (ID (PI QT) (ID m dD))
  (λs acc σ=>∀Z:Prop,(∀j Y L,H c (g.aj j) (b+(n-s.length)*k) t (Y++X) σ->bS Y (toT L) acc->L.length=s.length->(∀x∈L,P x)->Z)->Z)
  (λZ z=>z j [] [] h rfl rfl bP) (λs x r e R acc N σ i=>⟨.rng (ID m dD),i _ λj Y L C u A q=>?_⟩) λacc σ i=>⟨.rng (ID m dD),i _ λj Y L C u A q a G=>?_⟩
 ·have hs:n-s.length=(n-(s++[x]).length)+1:=by
   have z:=PR List.length e;simp only[QT,PQ] at z;exact rR z (rR PQ ((Sy ..).trans (PR (· +1) (Nat.add_sub_add_left s.length (r.length+1) (0+1)).symm)))
  simp only[hs,UL,<-QH] at C;exact step (nV x) j _ Y σ _ C λj Y' T v J B y I=>N _ _ λZ z=>z j (Y'++Y) (L++[T]) (rR (Qo ..) B) (uh (λp w=>PK _ w) (aV (λp w=>PZ _ w) y) u) (by refine(Qe (PQ))▸(rR PQ (rR A ?_));rfl) (bh q I)
 simp only[QT,Sn,Nat.zero_mul] at C;exact o j Y L acc a _ (C.new G) u (A.trans QT) q
noncomputable def F7:Me:=⟨2,0,1,8,0,30⟩
noncomputable def KH:Me:=⟨7,0,2,32,0,252⟩
def PF(T:Tm):Prop:=Bg KH T/\GW T=true/\bu T=true/\dP T=true
noncomputable instance {A B:Me}:Decidable (A.le B):=inferInstanceAs (Decidable (_/\_))
theorem CK(s:ai c):mE c l ns 1202 [] 3 2 PF:=λ{D g b t X σ Q j} M h q=>by refine PO (Ru M) λD v=>rR v (ah (F:=pZ) rfl rfl (iE (d:=D) (n:=2) s h dD λr J m C=>da (.add (kX (.range (n:=1+r) (ID (P2 (Vh m 1)) dD) (CW (g:=g) (j:=j+1) (b:=b) (k:=1) (P:=λT=>∃i,i<15/\T=.leaf i) (ID (P2 (Vh m 1)) dD) (C.dec (lq m)) (λx j b Y σ R h q=>iE (n:=15) s h dD λi y hi f=>q (j+1) [] (.leaf i) _ y f rfl (aK i hi rfl)) λj Y L vs a y f I e w=>?_))))));have z:=Bg.uni (B:=F7) (L:=L) (λx o=>by refine am (w x o) λi hi u=>?_;subst u;exact⟨Bg.leaf hi,rfl⟩) e (sB (RP r 1) (Ra r)) (lq m) ((by decide:∀r,r<2->(1+r)*F7.p+F7.p+1<64) r m);exact q j ((a,.list vs)::Y) (.uni (toT L)) _ y f ⟨a,vs,rfl,.head _,aV (λp G=>.tail _ G) I⟩ ⟨z.mono ((by decide:∀r,r<2->(Me.uni (1+r) F7).le KH) r m),rfl,Aa λx o=>by refine am (w x o) λi hi A=>?_;subst A;rfl,rfl⟩
end
section
variable{A K E B:Me}{i:Int}
def PT(B:Me)(T:Tm):Prop:=Bg B T/\dP T=true
def PE(B:Me)(T:Tm):Prop:=Bg B T/\IP T=true
def gv(c:cR)(l:Addr)(ns:Z9)(i:Int)(m k d:Nat)(K:Me):=∀⦃D:Nat⦄⦃g:bM⦄⦃b t X σ Q j⦄,d<=D->H c (g.aj j) (b+k) t X σ->(∀j Y T a o,H c (g.aj j) b t (Y++X) o->bS Y (.tup T) [.tup [.int 4,.ref a]]->Bg K (.tup T)->Q (.ref a) o)->ad (aa l ns) D 1214 [.ref c.d,.int i,nV m] σ Q
theorem NX{a b:Int}(q:Q (.bool (decide (b<a))) σ):eE .Gt (.int a) Q (.int b) σ:=cw .gt q
def OJ(A K B:Me):Prop:=F7.le B/\(∀k,k<4->(A.uni k).le B/\k*A.p+A.p+1<64)/\(∀k,k<4->(KH.int k).le B)/\A.arr.le B/\A.p<64/\A.s<=80000/\(A.arr.ro 0).le B/\(KH.ro 1).le B/\K.le B/\(K.ro 0).le B/\K.p<64/\K.e<64/\K.s<=90000
noncomputable instance:Decidable (OJ A K B):=inferInstanceAs (Decidable (_/\_))
theorem PT.arr(h:PT A T)(v:A.p<64)(hs:A.s<=80000):PT A.arr (.arr T)/\PT (A.arr.ro 0) (.ro (.arr T)):=
 ⟨⟨(Bg.arr h.1 h.2 v (ID hs dD)),rfl⟩,⟨(Bg.arr h.1 h.2 v (ID hs dD)).ro rfl (.inl ⟨rfl,rfl⟩) (by decide:1<64) v (ID (PX hs 140) dD),rfl⟩⟩
theorem Bg.rot(h:Bg K (.tup T))(v:K.p<64)(r:K.e<64)(hs:K.s<=90000):Bg (K.ro 0) (.ro (.tup T)):=h.ro rfl (.inl ⟨rfl,rfl⟩) v r hs
theorem vm(o:ai c)(hi: ¬0<i):mE c l ns 1207 [.int i] 2 2 (PT F7):=λ{D g b t X σ Q j} L h q=>by refine PO (Ru L) λD U=>?_;subst U;refine ah (F:=lK) rfl rfl (NX (az (λz=>VC z hi) λa=>iE (d:=D) (n:=2) o h dD λr G p C=>ez (b:=2) (az (λa=>iE (d:=D) (n:=15) o C dD λm y M e=>q (j+2) [] (.leaf m) _ y e rfl ⟨.leaf M,rfl⟩) λz=>VC p z)))
theorem Ec(ck:ai c)(hi:0<i){kT kK dd:Nat}(u:3<=dd)(hT:mE c l ns 1207 [.int (i-1)] kT dd (PT A))(hK:∀m,m<3->gv c l ns i m kK dd K)(ok:OJ A K B):mE c l ns 1207 [.int i] (11+3*kT+kK) (dd+1) (PT B):=λ{D g b t X σ Q j} hd h q=>by
 obtain⟨D,rfl⟩:=Ru hd;obtain⟨o1,o2,o3,o4,o5,o6,o7,o8,o9,o10,O4,Cu,O9⟩:=ok;have w:dd<=D+dd:=Qp ..;obtain⟨e,he⟩:=zb (n:=D+dd) (k:=1) (lq u);have take:∀{g:bM}{b t X σ Q}{n:Nat},H c g (b+1) t X σ->0<n->(∀r J,r<n->H c g.tk b t X J->Q (nV r) J)->ad (aa l ns) (D+dd) 1197 [.ref c.d,nV n] σ Q:=λh hn q=>by exact(Qe (he))▸(iE ck h hn q)
 have I:∀{r:Nat},r<2->2+r<=60:=λhr=>by exact lq hr
 have ro:∀{v:V}{Y:Y8}{T:Tm},bS Y T [v]->bS Y (.ro T) [.tup [.int 5,v]]:=λh=>⟨_,rfl,h⟩;refine ah (d:=D+dd) (F:=lK) rfl rfl (NX (az (λs=>take (n:=11) (b:=b+(10+3*kT+kK)) (h.dec dA) dD λr Wa hr G=>?_) λz=>VC hi z));have G:H c (g.aj (j+1)) (b+(10+3*kT+kK)) t X Wa:=G;refine ez (b:=2) (az (λs=>?_) λr2'=>ez (b:=4) (az (λs=>?_) λr4=>ag (b:=4) (az (λs=>?_) λs=>ag (b:=5) (az (λs=>?_) λs=>ag (b:=6) (az (λs=>?_) λs=>ag (b:=7) (az (λs=>?_) λs=>?_))))))
 ·exact take (n:=15) (b:=b) (G.dec dA) dD λm C M f=>q (j+2) [] (.leaf m) _ C f rfl ⟨(Bg.leaf M).mono o1,rfl⟩
 ·refine take (n:=2) (b:=b+3*kT) (G.dec dA) dD λm C M f=>da (.add (kX (.range (n:=2+m) (ID (I M) dD) (CW (g:=g) (j:=j+2) (b:=b) (k:=kT) (P:=PT A) (I M) (f.dec (P8 (Nat.mul_le_mul_right kT (lq M)) b)) (λx j b Y σ R h q=>da (.sub (hT w h q))) λj Y L vs a o N U e hL=>?_))));exact q j ((a,.list vs)::Y) (.uni (toT L)) _ o N ⟨a,vs,rfl,.head _,aV (λp hp=>.tail _ hp) U⟩ ⟨(Bg.uni hL e dA (I M) (o2 (2+m) (lq M)).2).mono (o2 (2+m) (lq M)).1,rfl⟩
 ·refine take (n:=2) (b:=b+9) (G.dec dA) dD λm C M f=>da (.add (kX (.range (n:=2+m) (ID (I M) dD) (CW (g:=g) (j:=j+2) (b:=b) (k:=3) (P:=PF) (I M) (f.dec (lq (vY 3 M))) (λx j b Y σ R h q=>CK ck (ID (R0 u) w) h q) λj Y L vs a o N U e hL=>?_))));exact q j ((a,.list vs)::Y) (.int (toT L)) _ o N ⟨a,vs,rfl,.head _,aV (λp hp=>.tail _ hp) U⟩ ⟨(Bg.int (λx hx=>have y:=hL x hx;⟨y.1,y.2.2.2,y.2.2.1⟩) e dA (I M) ((by decide:∀m,m<2->(2+m)*KH.p+KH.p+13<64) m M)).mono (o3 (2+m) (lq M)),rfl⟩
 ·exact da (.sub (hT w (G.dec (b':=b+kT) dA) λj Y T v C f U p=>q j Y (.arr T) _ C f ⟨v,rfl,U⟩ ⟨(p.arr o5 o6).1.1.mono o4,rfl⟩))
 ·exact da (.sub (hT w (G.dec (b':=b+kT) dA) λj Y T v C f U p=>q j Y (.ro (.arr T)) _ C f (ro ⟨v,rfl,U⟩) ⟨(p.arr o5 o6).2.1.mono o7,rfl⟩))
 ·exact CK ck (ID (R0 u) w) (G.dec (b':=b+3) dA) λj Y T v C f U p=>q j Y (.ro T) _ C f (ro U) ⟨(p.1.ro p.2.2.2 (.inr ⟨p.2.1,p.2.2.1,rfl⟩) dD dD dD).mono o8,rfl⟩
 refine take (n:=3) (b:=b+kK) (G.dec dA) dD λm C M f=>hK m M w (f:H c (g.aj (j+2)) _ _ _ _) λj Y T a o N U p=>ag (b:=8) (az (λs=>?_) λs=>?_)
 ·exact q j Y (.ro (.tup T)) _ o N (ro U) ⟨(p.rot O4 Cu O9).mono o10,rfl⟩
 exact q j Y (.tup T) _ o N U ⟨p.mono o9,rfl⟩
end
section
variable{m:Nat}{A K E B:Me}{i:Int}{a:Addr}
def OM(A K E:Me):Prop:=(∀s,s<2->(A.el s).le E)/\A.p<64/\A.s<=80000/\(A.arr.el 2).le E/\((A.arr.ro 0).el 2).le E/\(K.el 2).le E/\((K.ro 0).el 2).le E/\K.p<64/\K.e<64/\K.s<=90000
noncomputable instance:Decidable (OM A K E):=inferInstanceAs (Decidable (_/\_))
def KI(c:cR)(g:bM)(b t:Nat)(X:Y8)(i:Int)(m:Nat)(a:Addr)(E:Me)(C k:Nat)(ρ:Env)(σ:Hp):Prop:=
 ∀Z:Prop,(∀j Y L vs y M q,ρ=[some (.ref c.d),some (.int i),some (nV m),some (.ref a),y,M,q]->H c (g.aj j) (b+(m-k)*C) t ((a,.list vs)::(Y++X)) σ->bS Y (toT L) vs->L.length=k->(∀x∈L,PE E x)->Z)->Z
theorem KI.push{C:Nat}{L:List Tm}{vs:Z7}{Y':Y8}{T:Tm}{v:V}{y M q:V6}(h:H c (g.aj j) (b+(m-(k+1))*C) t (Y'++((a,.list vs)::(Y++X))) σ)(U:bS Y (toT L) vs)(e:L.length=k)(f:∀x∈L,PE E x)(o:bS Y' T [v])(p:PE E T):
  KI c g b t X i m a E C (k+1) [some (.ref c.d),some (.int i),some (nV m),some (.ref a),y,M,q] (upd σ a (.list (vs++[v]))):=
 λZ z=>z j (Y'++Y) (L++[T]) _ y M q rfl (rR (Qo ..) h.mid) (uh (λp w=>PK _ w) (aV (λp w=>PZ _ w) o) U) (by refine(Qe (PQ))▸(rR e ?_);rfl) (bh f p)
theorem H9:∀{vs:Z7},bS Y (toT L) vs->vs.length=L.length:=by
 induction L with
 |nil=>exactλe=>by refine rR (show _=[] from e) ?_;rfl
 |cons a L ih=>exactλo=>by exact dg (o) λx xs e _ r=>rR e (PR (· +1) (ih r))
theorem uc(ck:ai c)(hd3:1<=dd)(hT:mE c l ns 1207 [.int (i-1)] kT dd (PT A))(hK:0<i->∀m,m<3->gv c l ns (i-1) m kK dd K)(G:OM A K E)(ZW:m<=60)(hM:(E.tup m).le K'/\m*E.e<64/\m*E.s<=90000):gv c l ns i m (m*(3+kT+kK)) (dd+1) K':=λ{D g b t X σ Q j} hd h q=>by
 refine PO (Ru hd) λD YQ=>?_;subst YQ;have hD:dd<=D+dd:=Qp ..;refine jn (zb (n:=D+dd) (k:=1) (lq hd3)) λe he=>?_;have take:∀{g:bM}{b t X σ Q}{n:Nat},H c g (b+1) t X σ->0<n->(∀r ma,r<n->H c g.tk b t X ma->Q (nV r) ma)->ad (aa l ns) (D+dd) 1197 [.ref c.d,nV n] σ Q:=λh hn q=>by exact rR he (iE ck h hn q)
 have J:m<=lim:=ID ZW dD;refine ah (d:=D+dd) (F:=qT) rfl rfl λa ha=>kX (.range J (jY J (λk ρ σ=>KI c g b t X i m a E (3+kT+kK) k ρ σ) (λZ z=>z j [] [] [] none none none rfl (h.new ha) rfl rfl bP) (λk hk R hR ρ σ I=>I _ λj Y L vs x4 x5 x6 M h U e pl=>?_) λρ σ I=>I _ λj Y L vs x4 x5 x6 M h U e pl=>?_))
 ·refine rR M ?_;have hs:(m-k)*(3+kT+kK)=(m-(k+1))*(3+kT+kK)+(3+kT+kK):=by simp only[show m-k=(m-(k+1))+1 by exact Qz (lq (aO (iq (P2 hk)).1 (iq hk).2)) (lq (aO (iq (P2 hk)).2 (iq hk).1)),UL]
  simp only[hs] at h;have lv:vs.length<=lim:=ID (PI ((H9 U).trans e)) (ID (P2 hk) J);generalize hb:b+(m-(k+1))*(3+kT+kK)=b' at*;have el:∀{v:V}{Y:Y8}{T:Tm}{s:Nat},bS Y T [v]->bS Y (.el s T) [.tup [nV s,v]]:=λh=>⟨_,rfl,h⟩;have h:H c (g.aj j) (b'+(2+kT+kK)+1) t ((a,.list vs)::(Y++X)) σ:=h.dec (lq (mO hb));refine take (n:=5) h dD λr Wa hr h1=>ez (b:=3) (az (λr3=>?_) λu=>?_)
  ·refine bk (.append (h1.loc (.head _))) (da (.div dD dD (da (.sub (hT (b:=b') hD (h1.dec dA:H c (g.aj (j+1)) _ _ _ _) λj Y' T v C f o p=>kJ (.append (f.loc (PK _ (.head _))) lv (wExpr rfl (hR _ _ ?_))))))));refine rR ((by decide:∀r,r<5->Int.fdiv ((r:Nat):Int) 2=((r/2:Nat):Int)) r hr) ?_;simp only[<-hb] at f;exact KI.push f U e pl (el o) ⟨(Bg.el p.1 p.2 (by omega) λz=>VC z (by omega)).mono (G.1 (r/2) (by omega)),rfl⟩
  have Za:∀{x5:V6}{j Y' T v C},H c (g.aj j) (b'+1) t (Y'++((a,.list vs)::(Y++X))) C->bS Y' T [v]->Bg E (.el 2 T)->Bg E (.el 2 (.ro T))->fS (aa l ns) (ad (aa l ns) (D+dd)) (.seq (.expr (.meth (.var 3) "append" (.cons (.tup (.cons (.lit (.int 2)) (.cons (.ite (.cmp .Eq (.call 1197 "_law_take" (.cons (.var 0) (.cons (.lit (.int 3)) .nil))) (.lit (.int 0))) (.tup (.cons (.lit (.int 5)) (.cons (.var 6) .nil))) (.var 6)) .nil))) .nil))) .nil) [some (.ref c.d),some (.int i),some (nV m),some (.ref a),some (nV k),x5,some v] C (tW R (vE (fS (aa l ns) (ad (aa l ns) (D+dd)) (.seq (.ret (.var 3)) .nil)) (fJ Q))):=λ{x5 j Y' T v C} f o b1 b2=>by
   refine bk (.append (f.loc (PK _ (.head _)))) (take (n:=3) f dD λw Xa hw N=>ag (b:=0) (az (λu=>kJ (.append (N.loc (PK _ (.head _))) lv (wExpr rfl (hR _ _ ?_)))) λu=>kJ (.append (N.loc (PK _ (.head _))) lv (wExpr rfl (hR _ _ ?_)))))
   all_goals simp only[<-hb] at N
   ·exact KI.push (j:=j+1) N U e pl (el (s:=2) (T:=.ro T) ⟨_,rfl,o⟩) ⟨b2,rfl⟩
   ·exact KI.push (j:=j+1) N U e pl (el (s:=2) o) ⟨b1,rfl⟩
  refine ag (b:=4) (db (y:=decide (0<i)) (λu k=>NX k) (cD (λz=>?_) λu=>?_))
  ·have hi:0<i:=P9 (P7.mp z).2;refine da (.sub (take (n:=3) (b:=b'+1+kK) (h1.dec dA) dD λw C hw f=>hK hi w hw hD (f:H c (g.aj (j+2)) _ _ _ _) λj Y' T v Xa N o p=>?_));exact Za N o ((Bg.el p rfl (PD 2) λu=>rfl).mono G.2.2.2.2.2.1) ((Bg.el (p.rot G.2.2.2.2.2.2.2.1 G.2.2.2.2.2.2.2.2.1 G.2.2.2.2.2.2.2.2.2) rfl (PD 2) λu=>rfl).mono G.2.2.2.2.2.2.1)
  refine da (.sub (hT (b:=b'+1) hD (h1.dec dA:H c (g.aj (j+1)) _ _ _ _) λj Y' T v C f o p=>?_));exact Za (T:=.arr T) f ⟨v,rfl,o⟩ ((Bg.el (p.arr G.2.1 G.2.2.1).1.1 rfl (PD 2) λu=>rfl).mono G.2.2.2.1) ((Bg.el (p.arr G.2.1 G.2.2.1).2.1 rfl (PD 2) λu=>rfl).mono G.2.2.2.2.1)
 refine rR M ?_;simp only[Sn,Nat.zero_mul] at h;exact q j ((a,.list vs)::Y) (toT L) a σ h ⟨a,vs,rfl,.head _,aV (λp hp=>.tail _ hp) U⟩ ((Bg.tup (λx hx=>pl x hx) e ZW hM.2.1 hM.2.2).mono hM.1)
end
end
section
variable{c:cR}{k k' d Y m:Nat}{l:Addr}{ns:Z9}{K U:Me}{i:Int}
mutual
theorem gv.le(h:gv c l ns i m k d K)(e:k<=k')(L:d<=Y):gv c l ns i m k' Y K:=λa a a a a a a a z s q=>h (ID L z) (s.dec (P8 e _)) q
theorem mE.le{P:Tm->Prop}(h:mE c l ns f as k d P)(e:k<=k')(L:d<=Y):mE c l ns f as k' Y P:=λa a a a a a a a z s q=>h (ID L z) (s.dec (P8 e _)) q
noncomputable def K0:Me:=⟨1,6,4,986,1,2608⟩
noncomputable def E0:Me:=⟨2,3,3,423,0,746⟩
noncomputable def E1:Me:=⟨2,6,5,1261,1,3884⟩
noncomputable def K1:Me:=⟨1,12,6,2662,3,10560⟩
noncomputable def T1:Me:=⟨13,12,7,2802,3,13492⟩
noncomputable def E2:Me:=⟨13,14,9,3217,3,19796⟩
noncomputable def K2:Me:=⟨1,28,10,6574,7,46296⟩
noncomputable def Kr:Me:=⟨1,56,10,13008,13,92322⟩
noncomputable def T2:Me:=⟨53,28,11,11216,12,65314⟩
theorem Oa(n:ai c)(h:m<3):gv c l ns 0 m 10 4 K0:=
 gv.le (uc (A:=F7) (K:=⟨0,0,0,0,0,0⟩) (E:=E0) (kT:=2) (kK:=0) (dd:=3) (i:=0) n dD (mE.le (vm n dD) (PD _) dD) (λz=>VC z dD) dD (lq h) ((by decide:∀m,m<3->(E0.tup m).le K0/\m*E0.e<64/\m*E0.s<=90000) m h)) (by lia) dD
theorem LN(n:ai c)(h:m<3):gv c l ns 1 m 30 5 K1:=
 gv.le (uc (A:=F7) (K:=K0) (E:=E1) (kT:=2) (kK:=10) (dd:=4) (i:=1) n dD (mE.le (vm n dD) (PD _) dD) (λa m h=>Oa n h) dD (lq h) ((by decide:∀m,m<3->(E1.tup m).le K1/\m*E1.e<64/\m*E1.s<=90000) m h)) (by lia) dD
theorem L4(n:ai c):mE c l ns 1207 [.int 1] 47 6 (PT T1):=Ec (A:=F7) (K:=K1) (B:=T1) (kT:=2) (kK:=30) (dd:=5) (i:=1) n dD dD (mE.le (vm n dD) (PD _) dD) (λm h=>LN n h) dD
theorem LA(n:ai c)(h:m<5)(o:(E2.tup m).le K/\m*E2.e<64/\m*E2.s<=90000):gv c l ns 2 m (m*80) 7 K:=
 uc (A:=T1) (K:=K1) (E:=E2) (kT:=47) (kK:=30) (dd:=6) (i:=2) n dD (L4 n) (λa m h=>gv.le (LN n h) (PD _) dD) dD (lq h) o
theorem NN(n:ai c)(h:m<5):gv c l ns 2 m 320 7 Kr:=gv.le (LA n h ((by decide:∀m,m<5->(E2.tup m).le Kr/\m*E2.e<64/\m*E2.s<=90000) m h)) (lq (vY 80 h)) (PD _)
theorem NY(n:ai c):mE c l ns 1207 [.int 2] 312 8 (PT T2):=Ec (A:=T1) (K:=K2) (B:=T2) (kT:=47) (kK:=160) (dd:=7) (i:=2) n dD dD (mE.le (L4 n) (PD _) dD) (λm h=>gv.le (LA n (Q0 h dD) ((by decide:∀m,m<3->(E2.tup m).le K2/\m*E2.e<64/\m*E2.s<=90000) m h)) (lq (vY 80 h)) (PD _)) dD
end
end
section
variable{n dx l:Addr}{σ:Hp}{K:KS}{Q:KV}{ρ:Env}{L:Y8}{Y:Y7}{d:Nat}{ns:Z9}
section
variable{T:nc}{C a:Addr}{U:Str}{o o' N:O}
mutual
theorem Holds.sA(h:Holds ((n,o)::L) σ)(w:σ a=none):Holds ((n,o')::(a,N)::L) (upd (upd σ a N) n o'):=((h.new w).perm (Rw ..)).head
theorem nD(h:alloc (.dict []) σ Q):d8 Q [] σ:=by unfold d8;exact(Io ([]) rfl rfl rfl (PY _) .nil h)
theorem sV(h:Holds ((n,.inst C dx Y)::L) σ)(r:Nat.ble (bQ U v Y).length 1000=true)(z:T.attr C U=true)(q:∀p,Holds ((n,.inst C dx (bQ U v Y))::L) p->K .next ρ p):bU T (.ref n) U v ρ K σ:=
 fK (h.get (.head _)) (dU r) z (q _ h.head)
theorem sA(N:O)(h:Holds ((n,.inst C dx Y)::L) σ)(r:∀v,Nat.ble (bQ U v Y).length 1000=true)(z:T.attr C U=true)(q:∀a p,Holds ((n,.inst C dx (bQ U (.ref a) Y))::(a,N)::L) p->K .next ρ p):alloc N σ λv σ=>bU T (.ref n) U v ρ K σ:=
 λa w=>fK ((h.frame w).get (.head _)) (dU (r _)) z (q a _ (h.sA w))
theorem sI(h:Holds ((n,.inst C dx Y)::L) σ)(i:T.cls f=some none)(s:∀v,Nat.ble (bQ U v Y).length 1000=true)(z:T.attr C U=true)(q:∀a r,Holds ((n,.inst C dx (bQ U (.ref a) Y))::L) r->K .next ρ r):ad T (d+1) f [] σ λv σ=>bU T (.ref n) U v ρ K σ:=
 .cls i rfl λa p ne G e=>by exact fK (((h.frame (o:=.slot a) e).new (o:=.inst f p []) ((PV ne).trans G)).get (.tail _ (.head _))) (dU (s _)) z (q a _ ((((h.frame (o:=.slot a) e).new (o:=.inst f p []) ((PV ne).trans G)).perm (Rw ..)).head.sub (List.Sublist.cons_cons _ (Tt ..))))
theorem GD(h:Holds L σ)(q:∀a dx r p,Holds ((a,.inst 175 dx [("rows",.ref r),("file",.str "")])::(r,.list [])::L) p->Q (.ref a) p):ad (aa l ns) (d+2) 175 [] σ Q:=
 lS rfl λa dx ne G e=>IE (F:=mU) rfl rfl rfl (sA (.list []) ((h.frame e).new ((PV ne).trans G)) (λc=>rfl) rfl λr A b=>sV b rfl rfl λy s=>⟨rfl,q a dx r y s⟩)
noncomputable def M2(r i d b e m o w:Addr):Y7:=[("rows",.ref r),("index",.ref i),("decls",.ref d),("bounds",.ref b),("defaults",.ref e),("names",.ref m),("origins",.ref o),("renamed",.ref w),("shaping",.int 0),("putting",.int 0)]
theorem Oh(h:Holds ((a,.inst 237 dx Y)::(r,.list (R.map Row.toV))::(i,.dict (je R))::L) σ)(fr:aX "rows" Y=some (.ref r))(k:aX "index" Y=some (.ref i))(j:x∉R)(v:cF x.toV=true)(s:R.length<=20)(q:∀p,Holds ((a,.inst 237 dx Y)::(r,.list ((R++[x]).map Row.toV))::(i,.dict (je (R++[x])))::L) p->Q (nV R.length) p):ad (aa l ns) (d+1) 234 [.ref a,x.toV] σ Q:=by
 have w:=h.get (.head _)
 have hi:=h.get (.tail _ (.tail _ (.head _)))
 refine ah (F:=fy) rfl rfl (aW w k rfl (oY (.dict hi (jD v)) (cD (λm=>?_) λm=>?_)))
 ·replace m:=(show aJ x.toV (je R)=none from jC.trans (PV j))▸m;cases m
 ·refine aW w fr rfl (kX (.lenL (h.get (.tail _ (.head _))) (cO rfl (ID s dD):(R.map Row.toV).length<=lim) (aW w fr rfl (bk (.append (h.get (.tail _ (.head _)))) (kJ (.append (h.get (.tail _ (.head _))) (cO rfl (ID s dD):(R.map Row.toV).length<=lim) (wExpr rfl (aW ((PV (Holds.ne2 (A:=[]) (B:=[]) h:a≠r)).trans w) k rfl (jT ((PV ((Holds.ne2 (A:=[_]) (B:=[]) h).symm)).trans hi) (jD v) (ID (PI ((PL _).trans Vp)) (ID s dD)) ?_)))))))));rw[PL,Ax j];exact q _ (rR PU (Holds.mid (A:=[_]) (B:=[_]) (Holds.mid (A:=[_]) (B:=[]) h)))
theorem vM:∀s x r,bZ=s++x::r->x∉s/\s.length<=20:=λs x r e=>by
 have nd:bZ.Nodup:=by decide
 simp only[e] at nd;refine⟨λm=>(Q8.mp nd).2.2 x m x (.head _) rfl,?_⟩;have z:=PR List.length e;simp only[PQ] at z;exact ID (PM _ _) (ID (PI z.symm) dD)
theorem pk(s:String):cF (Row.key (Str.ofString s)).toV=true:=by show(true&&(PyData.strOk _&&true))=true;rw[bJ];rfl
theorem xT:∀x∈bZ,cF x.toV=true:=eg (pk _) (eg (pk _) (eg (pk _) (eg (pk _) (eg (pk _) (eg (pk _) (eg (pk _) (eg (pk _) (eg rfl (eg rfl (eg (pk _) (eg rfl (eg rfl (eg (pk _) (eg rfl (eg rfl (bP))))))))))))))))
theorem Fq(h:Holds L σ)(q:∀a dx r i d b e m o w p,Holds ((a,.inst 237 dx (M2 r i d b e m o w))::(r,.list (bZ.map Row.toV))::(i,.dict (je bZ))::L) p->Q (.ref a) p):ad (aa l ns) (d+3) 237 [] σ Q:=
 lS rfl λa dx ne G A=>ah (F:=hZ) rfl rfl (sA (.list []) ((h.frame A).new ((PV ne).trans G)) (λc=>rfl) rfl λr Wa B=>nD (sA (.dict []) B (λc=>rfl) rfl λi ab J=>sA (.list [.none]) J (λc=>rfl) rfl λd Xa h5=>sA (.list []) h5 (λc=>rfl) rfl λb ij h6=>sA (.list []) h6 (λc=>rfl) rfl λe tg h7=>sA (.list []) h7 (λc=>rfl) rfl λm Zv h8=>nD (sA (.dict []) h8 (λc=>rfl) rfl λo σ7 h9=>nD (sA (.dict []) h9 (λc=>rfl) rfl λw ZM j=>sV j rfl rfl λσ9 k=>sV k rfl rfl λM u=>by have z:Holds ((a,.inst 237 dx (M2 r i d b e m o w))::(r,.list [])::(i,.dict [])::L) M:=((u.sub (L':=(a,_)::(i,_)::(r,_)::L) (.cons_cons _ (.cons _ (.cons _ (.cons _ (.cons _ (.cons _ (.cons _ (.refl _))))))))).perm ((Rw ..).cons _));refine gO (f:=Row.toV) (xs:=bZ) .tup (λs ρ σ=>(∃x,ρ=[some (.ref a),x])/\Holds ((a,.inst 237 dx (M2 r i d b e m o w))::(r,.list (s.map Row.toV))::(i,.dict (je s))::L) σ) ⟨⟨_,rfl⟩,z⟩ (λs x t e R hR ρ σ I=>⟨.tup,?_⟩) λρ σ I=>⟨.tup,⟨rfl,q a dx r i d b e m o w σ I.2⟩⟩;refine PO (I.1) λy g=>rR g ?_;have v:=I.2;exact eh (v.get (.head _)) rfl rfl (Oh v rfl rfl (vM s x t e).1 (xT x (rR e (PK _ (.head _)))) (vM s x t e).2 λp h'=>wExpr rfl (hR _ _ ⟨⟨_,rfl⟩,h'⟩))))))
theorem Il(h:Holds L σ)(q:∀a dx p,Holds ((a,.inst 1171 dx [("tab",.ref t),("deep",.int 0),("most_rounds",.int 200),("most_deep",.int 40),("lib",.none)])::L) p->Q (.ref a) p):ad (aa l ns) (d+2) 1171 [.ref t] σ Q:=
 lS rfl λa dx ne G e=>ah (F:=oG) rfl rfl (sV ((h.frame e).new ((PV ne).trans G)) rfl rfl λA b=>sV b rfl rfl λy r=>sV r rfl rfl λf i=>sV i rfl rfl λI s=>sV s rfl rfl λg c=>⟨rfl,q a dx g c⟩)
end
end
section
variable{T:nc}{C a:Addr}{U:Str}{m:Nat}
mutual
noncomputable def Ps:List String:=["tab","host","bound","diags","dids","pids","std","guess","types","rules","shaper","declarer","checks","later","lax","told","nodes","bounded","defaulted","making","known","circles","order","tree","aliases","deep","owner","held","returns","stage","hits","rings","renewing","by_name","by_did"]
def LM:Y9:=Ps.map Str.ofString
theorem IK:LM.Nodup:=by decide+kernel
theorem BC:∀{Y:Y7},U∉Y.map (·.1)->bQ U v Y=Y++[(U,v)]:=by
 intro o;induction o with
 |nil=>intro _;exact rfl
 |cons p r ih=>intro h;rw[bQ,PV λe:p.1=U=>h (sB e Ud),ih λm=>h (.tail _ m)];rfl
theorem jU(e:f'=bQ k v f)(h:f=acc/\(acc.map (·.1)++k::ks).Nodup):f'=acc++[(k,v)]/\((acc++[(k,v)]).map (·.1)++ks).Nodup:=by obtain⟨rfl,h⟩:=h;refine⟨e.trans (BC λm=>(Q8.mp h).2.2 k m k (.head _) rfl),?_⟩;rw[PU,Qo];exact h
structure NS(t h di ty ru to:Addr)(Y:Y7):Prop where
 at_:∀k,aX "tab" (bQ "deep" (nV k) Y)=some (.ref t)/\aX "host" (bQ "deep" (nV k) Y)=some (.ref h)/\aX "diags" (bQ "deep" (nV k) Y)=some (.ref di)/\aX "types" (bQ "deep" (nV k) Y)=some (.ref ty)/\aX "rules" (bQ "deep" (nV k) Y)=some (.ref ru)/\aX "told" (bQ "deep" (nV k) Y)=some (.ref to)/\aX "deep" (bQ "deep" (nV k) Y)=some (nV k)/\aX "type_of" (bQ "deep" (nV k) Y)=none
 np:∀k j,bQ "deep" (nV j) (bQ "deep" (nV k) Y)=bQ "deep" (nV j) Y
 n0:bQ "deep" (nV 0) Y=Y
 ln:∀k,(bQ "deep" (nV k) Y).length<=100
theorem DM:∀{Y:Y7},(bQ U v Y).length<=Y.length+1:=by
 intro o;induction o with
 |nil=>exact PD 1
 |cons p r ih=>
  simp only[bQ];by_cases h:p.1=U
  ·exact rR (PW h) (Qt _)
  exact rR (PV h) (Qn ih)
theorem M0(h:Y.length+(m+1)<=1000):(bQ U v Y).length+m<=1000:=ID (PX DM m) (Qy Y.length 1 m▸h)
theorem NG(h:Y.length+(m+1)<=1000):Nat.ble (bQ U v Y).length 1000=true:=UQ (ID (PM _ m) (M0 h))
theorem tV(h:Holds ((n,.inst C dx Y)::L) σ)(r:Y.length+(m+1)<=1000)(z:T.attr C U=true)(q:∀o fs',fs'=bQ U v Y->fs'.length+m<=1000->Holds ((n,.inst C dx fs')::L) o->K .next ρ o):bU T (.ref n) U v ρ K σ:=
 sV h (NG r) z λo h'=>q o _ rfl (M0 r) h'
theorem tA(G:O)(h:Holds ((n,.inst C dx Y)::L) σ)(r:Y.length+(m+1)<=1000)(z:T.attr C U=true)(q:∀a o fs',fs'=bQ U (.ref a) Y->fs'.length+m<=1000->Holds ((n,.inst C dx fs')::(a,G)::L) o->K .next ρ o):alloc G σ λv σ=>bU T (.ref n) U v ρ K σ:=
 sA G h (λb=>NG r) z λa o h'=>q a o _ rfl (M0 r) h'
theorem tI(h:Holds ((n,.inst C dx Y)::L) σ)(i:T.cls f=some none)(r:Y.length+(m+1)<=1000)(z:T.attr C U=true)(q:∀a o fs',fs'=bQ U (.ref a) Y->fs'.length+m<=1000->Holds ((n,.inst C dx fs')::L) o->K .next ρ o):ad T (d+1) f [] σ λv σ=>bU T (.ref n) U v ρ K σ:=
 sI h i (λb=>NG r) z λa o h'=>q a o _ rfl (M0 r) h'
theorem tS(h:Holds ((n,.inst C dx Y)::L) σ)(t:Y.length+(m+1)<=1000)(z:(aa l ns).attr C U=true)(q:∀a p fs',fs'=bQ U (.ref a) Y->fs'.length+m<=1000->Holds ((n,.inst C dx fs')::L) p->K .next ρ p):ad (aa l ns) (d+2) 620 [] σ λv σ=>bU (aa l ns) (.ref n) U v ρ K σ:=
 lS rfl λa r ne G f=>ah (F:=kU) rfl rfl (nD (sA (.dict []) ((h.frame (o:=.slot a) f).new (o:=.inst 620 r []) ((PV ne).trans G)) (λb=>rfl) rfl λg A N=>⟨rfl,tV (N.perm ((List.Perm.cons _ (Rw ..)).trans (Rw ..))) t z λy fs' e l s=>q a y fs' e l (s.sub (.cons_cons _ (.cons _ (.cons _ (Ts _)))))⟩))
theorem MX:NS t th di a8 a9 a15 (List.zip LM [.ref t,.ref th,.none,.ref di,.ref a4,.ref a5,.ref a6,.ref a7,.ref a8,.ref a9,.ref wx,.ref a11,.ref a12,.ref a13,.ref a14,.ref a15,.ref a16,.ref a17,.ref a18,.ref a19,.ref a20,.ref a21,.ref a22,.ref a23,.ref a24,.int 0,.ref a26,.ref a27,.ref a28,.ref a29,.ref a30,.ref a31,.int 0,.ref a33,.ref a34]):=by
 have e:∀k,bQ "deep" (nV k) (List.zip LM [.ref t,.ref th,.none,.ref di,.ref a4,.ref a5,.ref a6,.ref a7,.ref a8,.ref a9,.ref wx,.ref a11,.ref a12,.ref a13,.ref a14,.ref a15,.ref a16,.ref a17,.ref a18,.ref a19,.ref a20,.ref a21,.ref a22,.ref a23,.ref a24,.int 0,.ref a26,.ref a27,.ref a28,.ref a29,.ref a30,.ref a31,.int 0,.ref a33,.ref a34])=List.zip LM ([.ref t,.ref th,.none,.ref di,.ref a4,.ref a5,.ref a6,.ref a7,.ref a8,.ref a9,.ref wx,.ref a11,.ref a12,.ref a13,.ref a14,.ref a15,.ref a16,.ref a17,.ref a18,.ref a19,.ref a20,.ref a21,.ref a22,.ref a23,.ref a24,.int 0,.ref a26,.ref a27,.ref a28,.ref a29,.ref a30,.ref a31,.int 0,.ref a33,.ref a34].set 25 (nV k)):=λk=>by kernel_rfl
 refine⟨λk=>?_,λk j=>?_,by kernel_rfl,λk=>P6 (by kernel_rfl)⟩
 ·refine⟨?_,?_,?_,?_,?_,?_,?_,?_⟩<;>kernel_rfl
 kernel_rfl
theorem FU(h:Holds L σ)(m:(th,.inst 1171 tx tf)∈L)(ht:aX "tab" tf=some (.ref t))(q:∀n dx ty ru to Y r,Holds ((n,.inst 739 dx Y)::(to,.dict [])::(ru,.dict [])::(ty,.dict [])::L) r->NS t th di ty ru to Y->Q (.ref n) r):ad (aa l ns) (d+4) 739 [.ref th,.none,.ref di] σ Q:=
 lS rfl λn dx ne z1 z2=>ah (F:=mj) rfl rfl (by have h0:Holds ((n,.inst 739 dx [])::L) _:=(h.frame (o:=.slot n) z2).new ((PV ne).trans z1);have l0:([]:Y7).length+(35+1)<=1000:=P6 rfl;exact aW (h0.get (.tail _ m)) ht rfl (tV h0 l0 rfl (λs0 f0 e0 l1 h1=>tV h1 l1 rfl (λs1 f1 e1 l2 h2=>tV h2 l2 rfl (λs2 f2 e2 l3 h3=>tV h3 l3 rfl (λs3 f3 e3 l4 h4=>nD (tA (.dict []) h4 l4 rfl (λa4 s4 f4 e4 l5 h5=>nD (tA (.dict []) h5 l5 rfl (λa5 s5 f5 e5 l6 h6=>nD (tA (.dict []) h6 l6 rfl (λa6 s6 f6 e6 l7 h7=>tI h7 rfl l7 rfl (λa7 s7 f7 e7 l8 h8=>nD (tA (.dict []) h8 l8 rfl (λa8 s8 f8 e8 l9 h9=>nD (tA (.dict []) h9 l9 rfl (λa9 s9 f9 e9 l10 Wt=>tS Wt l10 rfl (λN WP f10 e10 l11 Yt=>tI Yt rfl l11 rfl (λk s11 f11 ZL Pt VF=>tI VF rfl Pt rfl (λs s12 f12 e12 l13 XF=>tA (.list []) XF l13 rfl (λc s13 f13 e13 l14 h14=>tA (.list []) h14 l14 rfl (λj s14 f14 e14 l15 h15=>nD (tA (.dict []) h15 l15 rfl (λp s15 f15 e15 l16 h16=>nD (tA (.dict []) h16 l16 rfl (λb s16 f16 e16 l17 h17=>nD (tA (.dict []) h17 l17 rfl (λw s17 f17 e17 l18 h18=>nD (tA (.dict []) h18 l18 rfl (λB s18 f18 e18 l19 h19=>nD (tA (.dict []) h19 l19 rfl (λu s19 f19 e19 l20 Yw=>tA (.list []) Yw l20 rfl (λe s20 f20 e20 l21 h21=>nD (tA (.dict []) h21 l21 rfl (λg s21 f21 e21 l22 h22=>tA (.list []) h22 l22 rfl (λz s22 f22 e22 l23 h23=>tA (.list []) h23 l23 rfl (λv s23 f23 e23 l24 h24=>tA (.list []) h24 l24 rfl (λG s24 f24 ZC l25 h25=>tV h25 l25 rfl (λs25 f25 e25 l26 h26=>nD (tA (.dict []) h26 l26 rfl (λA s26 f26 e26 l27 h27=>nD (tA (.dict []) h27 l27 rfl (λx s27 f27 e27 l28 h28=>nD (tA (.dict []) h28 l28 rfl (λf s28 f28 e28 l29 h29=>nD (tA (.dict []) h29 l29 rfl (λy s29 f29 e29 l30 h30=>tA (.list []) h30 l30 rfl (λI s30 f30 e30 l31 h31=>tA (.list []) h31 l31 rfl (λJ s31 f31 e31 l32 h32=>tV h32 l32 rfl (λs32 f32 e32 l33 h33=>nD (tA (.dict []) h33 l33 rfl (λM s33 f33 e33 l34 h34=>nD (tA (.dict []) h34 l34 rfl (λi s34 f34 e34 l35 h35=>⟨rfl,q n dx a8 a9 p _ _ (h35.sub (.cons_cons _ (.cons _ (.cons _ (.cons _ (.cons _ (.cons _ (.cons _ (.cons _ (.cons _ (.cons _ (.cons _ (.cons _ (.cons _ (.cons _ (.cons _ (.cons _ (.cons _ (.cons _ (.cons_cons _ (.cons _ (.cons _ (.cons_cons _ (.cons_cons _ (.cons _ (.cons _ (.cons _ (Ts _)))))))))))))))))))))))))))) (by have nd:(([]:Y7).map (·.1)++[("tab":Str),("host":Str),("bound":Str),("diags":Str),("dids":Str),("pids":Str),("std":Str),("guess":Str),("types":Str),("rules":Str),("shaper":Str),("declarer":Str),("checks":Str),("later":Str),("lax":Str),("told":Str),("nodes":Str),("bounded":Str),("defaulted":Str),("making":Str),("known":Str),("circles":Str),("order":Str),("tree":Str),("aliases":Str),("deep":Str),("owner":Str),("held":Str),("returns":Str),("stage":Str),("hits":Str),("rings":Str),("renewing":Str),("by_name":Str),("by_did":Str)]).Nodup:=IK;exact rR (((jU e34 (jU e33 (jU e32 (jU e31 (jU e30 (jU e29 (jU e28 (jU e27 (jU e26 (jU e25 (jU ZC (jU e23 (jU e22 (jU e21 (jU e20 (jU e19 (jU e18 (jU e17 (jU e16 (jU e15 (jU e14 (jU e13 (jU e12 (jU ZL (jU e10 (jU e9 (jU e8 (jU e7 (jU e6 (jU e5 (jU e4 (jU e3 (jU e2 (jU e1 (jU e0 (acc:=[]) ⟨rfl,nd⟩)))))))))))))))))))))))))))))))))))).1.trans (show _=List.zip LM [.ref t,.ref th,.none,.ref di,.ref a4,.ref a5,.ref a6,.ref a7,.ref a8,.ref a9,.ref N,.ref k,.ref s,.ref c,.ref j,.ref p,.ref b,.ref w,.ref B,.ref u,.ref e,.ref g,.ref z,.ref v,.ref G,.int 0,.ref A,.ref x,.ref f,.ref y,.ref I,.ref J,.int 0,.ref M,.ref i] by kernel_rfl)) MX)⟩))))))))))))))))))))))))))))))))))))))))))))))))))))))
end
end
abbrev RL:=List (Nat×Addr×Addr×Addr)
def rE(p:Nat×Addr×Addr×Addr):V×V:=(nV p.1,V.ref p.2.1)
noncomputable def rI(p:Nat×Addr×Addr×Addr):Addr×O:=(p.2.1,.inst p.2.2.2 p.2.2.1 [])
noncomputable def sh(rl:RL):List (Nat×Addr):=rl.map λp=>(p.1,p.2.2.2)
section
variable{U:Addr}{rl:RL}{s:List (Nat×Addr)}
theorem E6:∀{rl:RL},k∉(sh rl).map (·.1)->aJ (nV k) (rl.map rE)=none:=by
 intro o;induction o with
 |nil=>intro _;exact rfl
 |cons p r ih=>intro h;rw[QG,aJ,PV λe:(rE p).1=nV k=>h (sB (iH e) Ud)];exact ih λm=>h (.tail _ m)
theorem oP(h:Holds ((U,.dict (rl.map rE))::(rl.map rI++L)) σ)(m:(n,.inst 739 dx Y)∈L)(i:aX "rules" Y=some (.ref U))(es:sh rl=s)(t:s.length<=20)(c:k∉s.map (·.1))(z:(aa l ns).cls C=some none)(q:∀rl p,sh rl=s++[(k,C)]->Holds ((U,.dict (rl.map rE))::(rl.map rI++L)) p->K .next ρ p):ad (aa l ns) (d+1) C [] σ λv σ=>kE (aa l ns) "rules" (λx σ=>cL x (nV k) v ρ K σ) (.ref n) σ:=
 .cls z rfl λr a ne G e=>by subst es;refine aW (((h.frame (o:=.slot r) e).new (o:=.inst C a []) ((PV ne).trans G)).get (.tail _ (.tail _ (PK _ m)))) i rfl (jT (((h.frame (o:=.slot r) e).new (o:=.inst C a []) ((PV ne).trans G)).get (.tail _ (.head _))) (P7.mpr ⟨rfl,all_map λb=>rfl⟩) (ID (PI ((PL _).trans (PL _).symm)) (ID t dD)) ?_);refine rR (fU (v:=V.ref r) (E6 c)) (q (rl++[(k,r,a,C)]) _ (PU ..) ?_);simp only[PU,PU,Qo];refine((((h.frame (o:=.slot r) e).new (o:=.inst C a []) ((PV ne).trans G)).perm (Rw ..)).head).perm (List.Perm.cons _ ?_);exact TH.symm
theorem Ga(h:Holds ((U,.dict (([]:RL).map rE))::(([]:RL).map rI++L)) σ)(m:(n,.inst 739 dx Y)∈L)(i:aX "rules" Y=some (.ref U))(q:∀rl o,sh rl=[(80,810),(82,836),(98,855)]->Holds ((U,.dict (rl.map rE))::(rl.map rI++L)) o->Q .none o):ad (aa l ns) (d+2) 864 [.ref n] σ Q:=
 ah (F:=ff) rfl rfl (oP h m i rfl dD dD rfl λT a A C=>oP C m i A dD dD rfl λj k G e=>oP e m i G dD dD rfl λr u B N=>q r u B N)
theorem JT(h:Holds ((U,.dict (rl.map rE))::(rl.map rI++L)) σ)(m:(n,.inst 739 dx Y)∈L)(i:aX "rules" Y=some (.ref U))(e:sh rl=[(80,810),(82,836),(98,855)])(q:∀rl o,sh rl=[(80,810),(82,836),(98,855),(83,879),(84,896)]->Holds ((U,.dict (rl.map rE))::(rl.map rI++L)) o->Q .none o):ad (aa l ns) (d+2) 905 [.ref n] σ Q:=
 ah (F:=fE) rfl rfl (oP h m i e dD dD rfl λN T A C=>oP C m i A dD dD rfl λj k G f=>q j k G f)
theorem Ju(h:Holds ((U,.dict (rl.map rE))::(rl.map rI++L)) σ)(m:(n,.inst 739 dx Y)∈L)(i:aX "rules" Y=some (.ref U))(e:sh rl=[(80,810),(82,836),(98,855),(83,879),(84,896)])(q:∀rl o,sh rl=[(80,810),(82,836),(98,855),(83,879),(84,896),(85,922),(86,995),(97,1019)]->Holds ((U,.dict (rl.map rE))::(rl.map rI++L)) o->Q .none o):ad (aa l ns) (d+2) 1028 [.ref n] σ Q:=
 ah (F:=fF) rfl rfl (oP h m i e dD dD rfl λT a A C=>oP C m i A dD dD rfl λj k G f=>oP f m i G dD dD rfl λr u B N=>q r u B N)
end
end
section
theorem gP:∀{rl:RL},sh rl=(k,C)::s->∃a b r,rl=(k,a,b,C)::r/\sh r=s
 |[],h=>nomatch h
 |(k',a,b,u)::r,h=>by cases h;exact(Px a b r rfl rfl)
structure Hs where
 nums:Addr
 d:Addr
 tab:Addr
 tdx:Addr
 rows:Addr
 index:Addr
 t1:Addr
 t2:Addr
 t3:Addr
 t4:Addr
 t5:Addr
 t6:Addr
 host:Addr
 hdx:Addr
 diags:Addr
 didx:Addr
 drows:Addr
 n:Addr
 ndx:Addr
 types:Addr
 rules:Addr
 told:Addr
 wt:Addr
 w:Addr
def Hs.c(h:Hs)(ns:Z9)(u:Y7)(rl:RL):cR where
 ns:=ns
 d:=h.d
 nums:=h.nums
 rows:=h.rows
 index:=h.index
 tab:=h.tab
 tdx:=h.tdx
 tabF:=M2 h.rows h.index h.t1 h.t2 h.t3 h.t4 h.t5 h.t6
 types:=h.types
 told:=h.told
 drows:=h.drows
 n:=h.n
 ndx:=h.ndx
 nF k:=bQ "deep" (nV k) u
 diags:=h.diags
 didx:=h.didx
 diF:=[("rows",.ref h.drows),("file",.str "")]
 host:=h.host
 hdx:=h.hdx
 hoF:=[("tab",.ref h.tab),("deep",.int 0),("most_rounds",.int 200),("most_deep",.int 40),("lib",.none)]
 rules:=h.rules
 w:=h.w
 wt:=h.wt
 rl:=rl
 ru k:=((rl.lookup k).getD (0,0,0)).1
 rd k:=((rl.lookup k).getD (0,0,0)).2.1
 fr:=[]
noncomputable def Ku:List (Nat×Addr):=[(80,810),(82,836),(98,855),(83,879),(84,896),(85,922),(86,995),(97,1019)]
theorem Hs.ok(h:Hs)(r:ns.length<=63)(s:NS h.tab h.host h.diags h.types h.rules h.told fs)(e:sh rl=Ku):ai (h.c ns fs rl):=by
 refine AC (gP e) λJ b1 r1 C A=>AC (gP A) λL b2 r2 l G=>AC (gP G) λc b3 r3 N B=>AC (gP B) λM b4 r4 n w=>AC (gP w) λa b5 r5 m g=>AC (gP g) λT b6 r6 o d=>?_;obtain⟨U,b7,r7,b,f⟩:=gP d;refine AC (gP f) λY b8 r8 Q i=>?_;have p:=R4.mp i;subst p Q b o m n N l C;refine⟨rfl,rfl,rfl,rfl,rfl,rfl,rfl,r,λk=>?_,λk j=>s.np k j,(by decide:[80,82,98,83,84,85,86,97].Nodup),?_,?_,?_,?_,?_,?_,?_,?_⟩
 ·exact OU (s.at_ k) λq t x u v y z I=>⟨q,t,x,u,v,y,z,I,s.ln k⟩
 ·exact .head _
 ·exact .tail _ (.head _)
 ·exact .tail _ (.tail _ (.head _))
 ·exact .tail _ (.tail _ (.tail _ (.head _)))
 ·exact .tail _ (.tail _ (.tail _ (.tail _ (.head _))))
 ·exact .tail _ (.tail _ (.tail _ (.tail _ (.tail _ (.head _)))))
 ·exact .tail _ (.tail _ (.tail _ (.tail _ (.tail _ (.tail _ (.head _))))))
 exact .tail _ (.tail _ (.tail _ (.tail _ (.tail _ (.tail _ (.tail _ (.head _)))))))
theorem J4{t:Type}(W p h N r j w l G s e z D T:t)(R:List t):(W::p::h::(R++[N,r,j,w,l,G,s,e,z,D,T])).Perm ([e,z,j,r,l,N,W,p,D,T,s,w,G,h]++R):=by
 have f:([W,p,h,N,r,j,w,l,G,s,e,z,D,T]:List t).Perm [e,z,j,r,l,N,W,p,D,T,s,w,G,h]:=
  (by decide:[0,1,2,3,4,5,6,7,8,9,10,11,12,13].Perm [10,11,5,4,7,3,0,1,12,13,9,6,8,2]).map λi=>[W,p,h,N,r,j,w,l,G,s,e,z,D,T].getD i h;exact(((List.perm_append_comm.cons _).cons _).cons _:(W::p::h::(R++[N,r,j,w,l,G,s,e,z,D,T])).Perm ([W,p,h,N,r,j,w,l,G,s,e,z,D,T]++R)).trans (f.append_right R)
def g0:bM:=⟨0,0,0,bZ,[],[],[]⟩
theorem Hs.start(h:Hs)(i:bQ "deep" (nV 0) fs=fs)(f:16+b<=900000)(ht:t<=63)(N:Holds ((h.w,.dict (wL (h.c ns fs rl) 0))::(h.wt,.list [])::(h.rules,.dict (rl.map rE))::(rl.map rI++[(h.n,.inst 739 h.ndx fs),(h.told,.dict []),(h.types,.dict []),(h.diags,.inst 175 h.didx [("rows",.ref h.drows),("file",.str "")]),(h.drows,.list []),(h.host,.inst 1171 h.hdx (h.c ns fs rl).hoF),(h.tab,.inst 237 h.tdx (h.c ns fs rl).tabF),(h.rows,.list (bZ.map Row.toV)),(h.index,.dict (je bZ)),(h.d,.list [nV 0,.ref h.nums]),(h.nums,.list (ns.map V.int))])) σ):H (h.c ns fs rl) g0 b t [] σ:=by
 refine⟨?_,f,ID (PI (Rh t)) ht⟩
 show Holds (cells (h.c ns fs rl) g0) σ
 unfold cells
 simp only[show(h.c ns fs rl).nF g0.deep=fs from i,show(g0.dr.map Lw)=[] from rfl,Qm]
 exact(N.perm (J4 ..))
end
noncomputable def xB:S->S|.seq _ r=>r|s=>s
def E3:S:=xB (xB (xB (xB (xB (xB (xB Hk))))))
section
variable{l:Addr}{ns:Z9}{D:Nat}{Q:KV}{σ:Hp}
theorem M9{vs:Z7}{a:Addr}(e:T.seq a=some vs)(r:vs.length<=lim)(q:alloc (.list (vs.take j)) σ Q):nX T (.fro a) .none (.int j) Q .none σ:=by unfold nX;refine(Et vs _ (.fro e) (.cut (lo:=none) (hi:=some j) rfl rfl) r ?_);show alloc (.list ((vs.drop 0).take (clipAt vs.length j-0))) σ Q;have:=vq vs 0 j;rw[UH,Vv];rw[Nat.zero_min,Vv] at this;refine rR this (rR Tx ?_);exact q
theorem Jv(e:ns.length<=63)(q:∀(h:Hs)u rl σ,ai (h.c (ns.take 40) u rl)->H (h.c (ns.take 40) u rl) g0 890000 63 [] σ->fS (aa l ns) (ad (aa l ns) (D+10)) E3 [some (.fro l),some (.ref h.nums),some (.ref h.d),some (.ref h.n),some (.ref h.w),none,none,none,none,none,none] σ (fJ Q)):ad (aa l ns) (D+11) 1303 [.fro l] (λb=>none) Q:=by
 have C:Holds [] (λb=>none):=⟨.nil,bP⟩;have I:(ns.map V.int).take 40=(ns.take 40).map V.int:=R7.symm;have v:(ns.take 40).length<=63:=ID (Vf ..) dD;refine ah (d:=D+10) (F:=Hv) rfl rfl (M9 (j:=40) (vs:=ns.map V.int) (PW rfl) (ID (PI (PL _)) (ID e dD)) λJ k=>?_);simp only[I];refine wG (f:=V.int) (xs:=ns.take 40) V.int (.list ((C.new (a:=J) (o:=.list ((ns.take 40).map V.int)) k).get (.head _))) (ID v dD) (λx b R Y=>Y) λnums U=>λd c=>Fq ((((C.new (a:=J) (o:=.list ((ns.take 40).map V.int)) k).new (o:=.list ((ns.take 40).map V.int)) U).sub (.cons_cons _ (Tt ..))).new (o:=.list [nV 0,.ref nums]) c) λtab tdx rows index t1 t2 t3 t4 t5 t6 s1 N=>Il (t:=tab) N λhost hdx s2 s=>GD s λdiags didx drows s3 y=>FU y (.tail _ (.tail _ (.head _))) rfl λn ndx types rules told u s4 z g=>?_;have i:aX "rules" u=some (.ref rules):=sB g.n0 ((g.at_ 0).2.2.2.2.1);refine Ga (z.perm ((((Rw ..).cons _).trans (Rw ..))):Holds ((rules,.dict (([]:RL).map rE))::(([]:RL).map rI++((n,.inst 739 ndx u)::(told,.dict [])::(types,.dict [])::_))) s4) (.head _) i λr1 s5 A T=>wExpr rfl (JT T (.head _) i A λr2 s6 G L=>wExpr rfl (Ju L (.head _) i G λr s7 B M=>wExpr rfl λwt hw=>?_));let hs:Hs:=⟨nums,d,tab,tdx,rows,index,t1,t2,t3,t4,t5,t6,host,hdx,diags,didx,drows,n,ndx,types,rules,told,wt,0⟩;unfold d8;refine⟨wL (hs.c (ns.take 40) u r) 0,rfl,rfl,?_,P6 rfl,?_,λw p=>?_⟩
 ·show(PyData.strOk _&&(PyData.strOk _&&(PyData.strOk _&&(PyData.strOk _&&true))))=true;simp only[bJ,bJ,bJ,bJ];rfl
 ·show([V.str "d",V.str "n",V.str "nid",V.str "told"]:Z7).Nodup;decide+kernel
 have m:=(M.new (o:=.list []) hw).new (o:=.dict (wL (hs.c (ns.take 40) u r) 0)) p;exact q {hs with w:=w} u r _ (Hs.ok _ v g B) (Hs.start _ g.n0 (P6 rfl) (PD _) m)
end
section
variable{σ:Hp}{Q:KV}{m:Nat}{l:Y9}{a Y:Addr}
theorem tc(h:∀s∈l,PyData.strOk s=true):(l.map V.str).all cF=true:=rR List.all_map (Qc.mpr h)
theorem EX:∀{l:Y9},(∀s∈l,PyData.strOk s=true)->PyData.canLayAll0 (aN (l.map V.str))=true/\PyData.depthAll (aN (l.map V.str))<=1:=by
 intro n;induction n with
 |nil=>intro _;exact⟨rfl,PY _⟩
 |cons s r ih=>intro h;have i:=ih λx j=>h x (.tail _ j);show PyData.canLayAll0 (.str s::aN (r.map V.str))=true/\PyData.depthAll (.str s::aN (r.map V.str))<=1;simp only[PyData.canLayAll0,PyData.canLay0,PyData.depthAll,PyData.depth,h s (.head _),i.1];exact⟨rfl,RH.mpr ⟨PY _,i.2⟩⟩
theorem Fi(e:σ a=some (.list (l.map V.str)))(b:σ Y=some (.list (l.map V.str)))(h:∀s∈l,PyData.strOk s=true)(q:Q (.bool false) σ):eE .NotEq (vV ((m,l),a)) Q (vV ((m,l),Y)) σ:=by
 have z:=EX h;have s:SeqAt.shaped (.tuple [.int m,.list (aN (l.map V.str))])=true:=by unfold SeqAt.shaped;simp only[PyData.canLay0,PyData.canLayAll0,PyData.canLay0,PyData.canLayAll0,PyData.canLay0,z.1,PyData.canLayAll0];refine P7.mpr ⟨rfl,Qg ?_⟩;simp only[PyData.depth,PyData.depthAll,PyData.depth,PyData.depthAll,PyData.depth,PyData.depthAll];lia
 have c:qa σ .NotEq (vV ((m,l),a)) (vV ((m,l),Y)) (!PyData.eqv (.tuple [.int m,.list (aN (l.map V.str))]) (.tuple [.int m,.list (aN (l.map V.str))])):=
  .ne (.tup (.cons .int (.cons (.list e (tc h)) .nil))) (.tup (.cons .int (.cons (.list b (tc h)) .nil))) (P7.mpr ⟨s,s⟩);exact cw c (rR (SeqAt.eqv_refl _ (UM s)) q)
end
section
variable{c:cR}{g Y:bM}{b t d D:Nat}{X J:Y8}{σ:Hp}{l:Addr}{ns:Z9}{U I:Us}{T:Tm}{v:V}
section
variable{Q:KV}{f:Nat}
theorem Gr.le(r:Gr g Y m):Le g Y U U X X:=⟨λa a h=>h,PI r.nid.symm,r.rows,r.keep,r.told,λx i=>rR r.wt i,r.deep,λx i=>.inl (sB r.wt i),[],rfl⟩
theorem St.gr(s:St c g b t X σ U)(r:Gr g Y m)(i:Go Y U)(h:H c Y b' t X ma):St c Y b' t X ma U:=⟨h,i,λn M e=>ID (s.bd n M e) (PI r.nid.symm),rR r.wt s.nd,λx j=>ID (s.id x (sB r.wt j)) (PI r.nid.symm)⟩
def Dt(c:cR)(g:bM)(b t:Nat)(X:Y8)(U:Us)(f:Nat)(T:Tm)(Q:KV):=∀Y I J u o,Le g Y U I X J->St c Y b t J o I->PS Y.rows u=(aT Y.rows T).s 0->(f=0->Ty Y.rows T u)->(∀x∈Y.wt,x∈g.wt\/x∈cW Y)->Q (nV u) o
theorem Hl(k:ai c)(p:f<=1)(o:dP T=true)(i:60*(me T).1.h+20<=D)(G:g4 T)(om:oo T)(s:St c g (b+(me T).1.s+(me T).1.b) (t+(me T).1.t) X σ U)(L:g.deep+3*(me T).1.h<=60)(is:bS X T [v])(q:Dt c g b t X U f T Q):
  ad (aa l ns) D 1298 [.ref c.w,v,nV f] σ λx σ=>ad (aa l ns) D 708 [.ref c.n,x] σ Q:=
 D6 k p o i G om s L is λm j B N a Wa e h A M w ø=>by
  have zT:m.deep+lv N<=60:=by have z:=e.deep;have z2:=M.lv;exact lq (aO L (aO (fW z) z2))
  exact Nr k w.one (d:=D-fu N) (b:=b) (Q5 (lq (aO i (M.fu)))).symm ⟨h.h.dec (P8 M.co b),h.go,A.sub,A.old,A.ok,A.is,A.tl,zT,A.rf⟩ λn u y r=>q n j B u y (e.trans r.gr.le) (h.gr r.gr r.go r.h) ((r.ty.eq _ (.refl r.go.wf)).trans (M.s _ r.go.wf 0)) (λz=>sB (w.ex z) r.ty) λx C=>(w.wt x (sB r.gr.wt C)).imp_right (r.told x)
theorem I5(w:WF R)(h:PS R u=(aT R T).s 0)(h':PS R u'=(aT R T).s 0):u=u':=w.inj λp=>iff_of_eq (RT (h.trans h'.symm) p)
end
section
variable{Q:KV}
theorem J2(e:ex N=.tup T)(r:iZ N=true):∃n k,N=.tup n k:=by cases N<;>first|exact vy _ _ rfl|exact VC r PC|exact nomatch e
theorem IH(y:ai c)(hD:60*(me (.tup T)).1.h+20<=D)(ok:g4 (.tup T))(om:oo (.tup T))(s:St c g (b+(me (.tup T)).1.s+(me (.tup T)).1.b) (t+(me (.tup T)).1.t) X σ U)(hd:g.deep+3*(me (.tup T)).1.h<=60)(is:bS X (.tup T) [v])(q:Dt c g b t X U 0 (.tup T) Q):
  ad (aa l ns) D 1291 [.ref c.w,v,nV 0] σ λx σ=>ad (aa l ns) D 978 [.ref c.n,x] σ Q:=
 Ak y (PY 1) (T:=.tup T) rfl (ID (P8 dD _) hD) ok om s hd is λg1 U1 X1 N a Wa o s1 A sp wn XN=>by
  have p:g1.deep+lv N<=60:=by have z:=o.deep;have z2:=sp.lv;exact lq (aO hd (aO (fW z) z2))
  refine i5 (J2 (wn.ex rfl) (XN rfl)) λn k e6=>?_;subst e6;refine A.is _ λks dx ka at_ YM=>Iw (A.ok) λB el r cd Zp=>dQ (B) λil ll=>?_;have C:co k+132+1<=(me (.tup T)).1.s:=sp.co;have G:fu k+20<=fu (.tup n k):=PD _;refine jn (zb (n:=D) (k:=fu k+8) (lq (aO hD (aO (sp.fu) G)))) λe e7=>?_;subst e7;refine B3 (M:=e+fu k) (b:=b+1) (j:=n) (t:=t) y il ll el (λm s x i=>?_) ⟨s1.h.dec (lq C),s1.go,A.sub.2,A.old.2,r,YM,λx i=>A.tl x (PK _ i),(ID (P8 (Qt _) _) p:g1.deep+lv k<=60),A.rf⟩ (λx i=>A.tl x (PZ _ i)) cd Zp at_ λg2 u ab go L ty told h2=>?_
  ·have z:old (.el m s x):=lO (P:=old) (λw w h=>h) i A.old.2;exact⟨Nr y ((lO (P:=tK) (λw w h=>h) i r).2.1),ID (Ab (Nd.el m s x) i:fu x<=fu k) (Qp (fu k) e),P2 (Q0 z.1 ((A.old.1) _ i))⟩
  have f:(Tm.tup (ex k))=.tup T:=wn.ex rfl;exact q g2 U1 X1 u ab (o.trans L.le) (s1.gr L go (h2.dec (Qt b))) ((ty.eq _ (.refl go.wf)).trans (PR (λT=>(aT g2.rows T).s 0) f)) (λw=>sB f ty) λx i=>(wn.wt x (sB L.wt i)).imp_right λm=>told x m
end
section
variable{K:KS}{u:Nat}{N M L G C B Q:V6}
theorem K8(A:ai c)(o:dP T=true)(hD:60*(me T).1.h+20<=D)(y:g4 T)(om:oo T)(hp:(me T).1.p<64)(hs:(me T).1.s<=20000)(s:St c g (b+(me T).1.s+(me T).1.b) (t+(me T).1.t) X σ U)(hd:g.deep+3*(me T).1.h<=60)(is:bS X T [v])(ty:Ty g.rows T u)(q:∀Y I J r,Le g Y U I X J->St c Y b t J r I->(∀x∈Y.wt,x∈g.wt\/x∈cW Y)->K .next [N,M,L,some (.ref c.n),some (.ref c.w),G,C,some v,some (nV u),B,Q] r):
  fS (aa l ns) (ad (aa l ns) D) (xB (xB pD)) [N,M,L,some (.ref c.n),some (.ref c.w),G,C,some v,some (nV u),B,Q] σ K:=by
 have m:=jd T y
 refine eh s.h.c_n (A.nf _).type_of rfl (Hl A (PD 1) o hD y om s hd is λi U1 X1 u1 Wa h f ps ø wt=>oe (az (λz=>?_) λø=>?_))
 ·have e:d1 g.rows i.rows:=⟨h.rows,f.go.wf⟩;exact VC (I5 f.go.wf ps (ty.eq _ e)) z
 ·have ty1:Ty i.rows T u:=ty.ext ⟨h.rows,f.go.wf⟩;obtain⟨e,he⟩:∃e,D=e+2*ht T+4:=zb (n:=D) (k:=2*ht T+4) (lq (aO hD (vY 2 m.d)));refine aW f.h.c_n (A.nf _).tab rfl (he▸H3 (d:=e) A f.go.wf ty1 y (PJ m.p hp) (by have:=m.l;lia) f.h λa ab h2=>?_);refine(Mu T).v o (ID m.f (lq (aO hD (fW he)))) y h2 (aV (λp hp=>.tail _ (h.mem p hp)) is) λa2 Xa j=>Fi (j.loc (.tail _ (.head _))) (j.loc (.head _)) (((dF T (fG y)).1.a _ (.head _)).2:∀w∈(val T).v.2,PyData.strOk w=true) (af ?_);exact q i U1 _ Xa (h.trans (Le.new.trans .new)) ⟨j,f.go,f.bd,f.nd,f.id⟩ wt
end
section
variable{k u:Nat}{K:KS}{N M G C A B Q:V6}{vs:Z7}{a:Addr}
theorem Ix(n:ai c)(o:dP T=true)(j:60*(me T).1.h+20<=D)(z:g4 T)(om:oo T)(hp:(me T).1.p<64)(hs:(me T).1.s<=20000)(s:St c g (b+(me T).1.s+(me T).1.b+(me T).1.s+(me T).1.b) (t+(me T).1.t+(me T).1.t) X σ U)(y:g.deep+3*(me T).1.h<=60)(is:bS X T [v])(ml:(a,.list vs)∈X)(hk:vs[k]?=some v)(k2:k<2)(h0:k=0->∃L,T=.tup L)(q:∀Y I J p u,Le g Y U I X J->St c Y b t J p I->(∀x∈Y.wt,x∈g.wt\/x∈cW Y)->K .next [N,M,G,some (.ref c.n),some (.ref c.w),some (.ref a),some (nV k),some v,some (nV u),B,Q] p):
  fS (aa l ns) (ad (aa l ns) D) pD [N,M,G,some (.ref c.n),some (.ref c.w),some (.ref a),some (nV k),C,A,B,Q] σ K:=by
 have h:Dt c g (b+(me T).1.s+(me T).1.b) (t+(me T).1.t) X U 0 T λw p=>fS (aa l ns) (ad (aa l ns) D) (xB (xB pD)) [N,M,G,some (.ref c.n),some (.ref c.w),some (.ref a),some (nV k),some v,some w,B,Q] p K:=λg1 U1 X1 u Wa f s1 ps ty wt=>
  K8 n o j z om hp hs s1 (rR f.deep y) (aV f.mem is) (ty rfl) λg2 U2 X2 ab i s2 wt2=>q g2 U2 X2 ab u (f.trans i) s2 λx hx=>(wt2 x hx).elim (λm=>(wt x m).imp_right (i.told x)) .inr
 refine cm (s.h.loc ml) (Q0 k2 dD) hk (ag (b:=0) (az (λe=>?_) λe=>?_))
 ·refine PO (h0 e) λL r=>?_;subst r;exact IH n j z om s y is h
 ·exact eh s.h.c_n (n.nf _).type_of rfl (Hl n (PY 1) o j z om s y is h)
end
end
noncomputable def iP(p:Nat×Nat):Int×Int:=(p.1,p.2)
theorem Js(h:kP p=kP q)(a:0<=p.2/\p.2<1000000)(b:0<=q.2/\q.2<1000000):p=q:=by unfold kP at h;refine US ?_ ?_<;>lia
theorem F4{l g:List (Int×Int)}(p:l.Perm g)(b:∀p∈l,0<=p.2/\p.2<1000000)(h:l.Pairwise (λa b=>kP a<=kP b))(h':g.Pairwise (λa b=>kP a<=kP b)):l=g:=
 p.eq_of_pairwise (λx y i B a c=>Js (UN a c) (b x i) (b y (p.mem_iff.mpr B))) h h'
theorem FD{A B:V9}(w:A.Nodup)(f:B.Nodup)(h:∀x,x∈A↔x∈B):A.Perm B:=(SU w f).mpr h
section
variable{c:cR}{g:bM}{b t D:Nat}{X:Y8}{σ:Hp}{Q:KV}{l:Addr}{ns:Z9}
section
variable{U:Us}{N M T G C J A B Y:V6}
theorem BZ:∀{l:List (Int×Int)},(l.map cT).all cF=true/\PyData.canLayAll0 (aN (l.map cT))=true/\PyData.depthAll (aN (l.map cT))<=1:=by
 intro m;induction m with
 |nil=>exact⟨rfl,rfl,PY _⟩
 |cons p r ih=>
  refine⟨P7.mpr ⟨rfl,ih.1⟩,?_⟩;show PyData.canLayAll0 (.tuple [.int p.1,.int p.2]::aN (r.map cT))=true/\PyData.depthAll (.tuple [.int p.1,.int p.2]::aN (r.map cT))<=1;rw[PyData.canLayAll0,ih.2.1,PyData.depthAll,PyData.depth];refine⟨?_,RH.mpr ⟨?_,ih.2.2⟩⟩
  ·rfl
  rw[PyData.depthAll,PyData.depth,PyData.depthAll,PyData.depth,PyData.depthAll];decide
theorem LO(m:ai c)(s:St c g b t X σ U)(ht:∀x∈g.wt,x∈cW g)(q:∀u,Q (.bool true) u):
  fS (aa l ns) (ad (aa l ns) D) (xB (xB (xB E3))) [N,M,T,some (.ref c.n),some (.ref c.w),G,C,J,A,B,Y] σ (fJ Q):=by
 have h:=s.h
 have pm:(cW g).Perm g.wt:=FD s.go.nd s.nd λx=>⟨s.go.sub x,ht x⟩
 have lw:g.wt.length<=63:=ID (PM _ t) h.bw
 have ld:g.dr.length<=63:=ID (PI ((PL (as:=g.dr) (·.2.2)).symm.trans pm.length_eq)) lw
 refine aW h.c_n (m.nf _).diags rfl (aW h.c_diags m.di_rows rfl (wG (f:=λp:Addr×Addr×Nat×Nat=>V.ref p.1) (xs:=g.dr) (λp=>pV p.2.2) (.list h.c_drows) (ID ld dD) (λp v R hR=>?_) λa ha=>?_))
 ·exact aW (h.c_dr v) rfl rfl (aW (h.c_dr v) rfl rfl hR)
 have i:=h.new (o:=.list (g.dr.map λp=>pV p.2.2)) ha
 have e1:g.dr.map (λp=>pV p.2.2)=((cW g).map iP).map cT:=by unfold cW;refine rR QA (rR QA ?_);rfl
 have e2:g.wt.map pV=(g.wt.map iP).map cT:=by simp only[QA];rfl
 have y:∀{L:V9},(∀x∈L,x∈g.wt)->∀p∈L.map iP,0<=p.2/\p.2<1000000:=λ{L} hL p v=>by exact am (P1.mp v) λx hx d=>(d)▸⟨Rb _,UD.mpr (PJ (ID (s.id x (hL x hx)) (by unfold bM.sz;exact dA)) h.lt)⟩
 refine kX (.sortP ((i.loc (.head _)).trans (rR e1 rfl)) (Qq (ID (PI ((PL _).trans (PL _))) ld):((cW g).map iP).length<64) (y s.go.sub) λI p1 s1 a1 r=>?_)
 refine rM (i.new (o:=.list (I.map cT)) r).c_w (P7.mpr ⟨bJ _,rfl⟩) rfl (kX (.sortP ((i.new (o:=.list (I.map cT)) r).c_wt.trans (by simp only[e2])) (Qq (ID (PI (PL _)) lw):(g.wt.map iP).length<64) (y λø h=>h) λw p2 s2 a2 j=>?_))
 have n:=(i.new (o:=.list (I.map cT)) r).new (o:=.list (w.map cT)) j
 have e:I=w:=F4 (p1.trans ((pm.map iP).trans p2.symm)) (λp v=>y s.go.sub p (p1.mem_iff.mp v)) s1 s2
 subst e
 have z:=BZ (l:=I)
 have k:SeqAt.shaped (.list (aN (I.map cT)))=true:=by unfold SeqAt.shaped;simp only[PyData.canLay0,z.2.1,PyData.depth];exact P7.mpr ⟨rfl,Qg (ID (Qn z.2.2) dD)⟩
 refine cw (.eq (.list (n.loc (.tail _ (.head _))) z.1) (.list (n.loc (.head _)) z.1) (P7.mpr ⟨k,k⟩)) ?_
 simp only[SeqAt.eqv_refl _ (UM k)]
 exact q _
end
section
variable{U:Us}{M J G C Y A B N:V6}{a:Addr}{vs:Z7}
noncomputable def LB:Me:=⟨53,56,11,13008,13,92322⟩
def TV(X:Y8)(vs:Z7):=∀k v,vs[k]?=some v->∃T,bS X T [v]/\Bg LB T/\dP T=true/\(k=0->∃L,T=.tup L)
theorem zl(ck:ai c)(hD:680<=D)(lv:vs.length<=2)(tv:TV X vs)(ml:(a,.list vs)∈X)(s:St c g (2*210660) (2*26) X σ U)(d0:g.deep=0)(o:∀x∈g.wt,x∈cW g)(q:∀ma,Q (.bool true) ma):
  fS (aa l ns) (ad (aa l ns) D) (xB (xB E3)) [M,J,G,some (.ref c.n),some (.ref c.w),some (.ref a),C,Y,A,B,N] σ (fJ Q):=by
 refine eZ (s.h.loc ml) (ID lv dD) rfl (jY (ID lv dD) (λk ρ σ=>∀Z:Prop,(∀r j y C Y A,ρ=[M,J,G,some (.ref c.n),some (.ref c.w),some (.ref a),C,Y,A,B,N]->Le g r U j X y->St c r ((2-k)*210660) ((2-k)*26) y σ j->(∀x∈r.wt,x∈cW r)->Z)->Z)
  (λZ z=>z g U X _ _ _ rfl .refl s o) (λk hk R hR ρ σ I=>I _ λr j y C Y A e le s' wt=>?_) λρ σ I=>I _ λr j y C Y A e le s' wt=>?_)
 ·refine rR e ?_;obtain⟨v,hv⟩:∃v,vs[k]?=some v:=⟨vs[k],P4 hk⟩;refine EY (tv k v hv) λT w d f h=>?_;have n:k<2:=P5 hk lv;have L:(me T).1.s<=13008:=d.s;have b2:(me T).1.b<=92322:=d.b;have b3:(me T).1.h<=11:=d.h;have b4:(me T).1.t<=13:=d.t;have e2:2-k=(2-(k+1))+1:=(Q5 (Nat.sub_pos_of_lt n)).symm;refine Ix (b:=(2-(k+1))*210660) (t:=(2-(k+1))*26) ck f (lq (aO hD (vY 60 b3))) d.ok d.om (PJ d.p dD) (lq L) ((s'.dec (by rw[e2,UL];exact lq (aO L (aO b2 (aO L b2))))).dt (lq (aO (vY 2 b4) (aO (vY 26 (iq n).1) (vY 26 (iq (P2 n)).2))))) (lq (aO (vY 3 b3) (fW (le.deep.trans d0:r.deep=0)))) (aV le.mem w) (le.mem _ ml) hv n h λg2 U2 X2 ab u i s2 p=>hR _ _ λZ z=>z g2 U2 X2 _ _ _ rfl (le.trans i) s2 λx hx=>(p x hx).elim (λm=>i.told x (wt x m)) λm=>m
 ·exact rR e (LO ck s' wt q)
end
section
variable{j:Nat}{Y:Y8}
theorem Cx:WF bZ where
 first:=Ry _
 nd:=by decide
 fit:=λt r e=>by
  rcases(by decide:∀x∈bZ,J9 x=false\/x=.uni [8,9]) r (QO e) with h|rfl
  ·induction r<;>first|exact(jW e:t<16)|exact VC h.symm PC
  obtain rfl:=(by decide:∀t,t<16->bZ[t]?=some (.uni [8,9])->t=12) t (jW e:t<16) e;refine⟨by decide,by decide,eg ⟨by decide,by unfold o0;decide,by decide,by decide,(λl e=>nomatch e),λr e h=>by cases e;exact VC rfl h⟩ (eg ⟨by decide,by unfold o0;decide,by decide,by decide,(λl e=>nomatch e),λr e h=>by cases e;exact VC rfl h⟩ (bP))⟩
noncomputable def U0:Us:=λa=>none
theorem OO(h:H c (g0.aj j) b t X σ):St c (g0.aj j) b t X σ U0:=St.mk
 h ⟨Cx,rfl,bP,bP,SR⟩ (λn M e=>nomatch e) SR bP
theorem IM(s:ai c)(h:H c g0 890000 63 [] σ){L:V}(d:680<=D)(q:∀y,Q (.bool true) y):
  fS (aa l ns) (ad (aa l ns) (D+1)) E3 [some (.fro l'),some L,some (.ref c.d),some (.ref c.n),some (.ref c.w),none,none,none,none,none,none] σ (fJ Q):=by
 refine iE (n:=4) s (h.dec (by decide:889000+1<=890000)) dD λr Wa I C=>da (.add (NN (m:=1+r) (j:=1) s (lq I) (ID dD (ID (ID dD d) (Qt D):8<=D+1)) (C.dec (by decide:880000+320<=889000)) λj Y T a ab B U N a5 G=>?_))
 have J:∀{Z:Y8},(∀p∈Y++[],p∈Z)->TV Z [.tup [.int 4,.ref a]]:=λ{Z} hz k v e=>by
  cases k with
  |zero=>cases e;exact(JG _ (aV (λp x=>hz p (PZ _ x)) U) (N.mono dD) rfl (λf=>⟨T,rfl⟩))
  |succ k=>exact VC e (by induction k<;>exactλz=>nomatch z)
 refine iE (n:=2) s ((B.new (o:=.list [.tup [.int 4,.ref a]]) G).dec (by decide:870000+1<=880000)) dD λw Xa hw u=>ag (b:=1) (az (λf=>?_) λf=>?_)
 ·refine bk (.append (u.loc (.head _))) (NY (j:=j+1) s (ID (ID dD d) (Qt D):8<=D+1) (u.dec (by decide:860000+312<=870000)) λj' Y' i v ij A M p=>kJ (.append (A.loc (PK _ (.head _))) (P6 rfl) (wExpr rfl ?_)));refine zl (vs:=[.tup [.int 4,.ref a]]++[v]) s (QI d:680<=D+1) (P6 rfl) (λk v' e=>?_) (.head _) ((OO ((A.mid (o':=.list ([.tup [.int 4,.ref a]]++[v]))).dec (by decide:2*210660<=860000))).dt dD) rfl (bP) q;cases k with
  |zero=>cases e;exact(JG _ (aV (λp x=>.tail _ (PK _ (PZ _ x))) U) (N.mono dD) rfl (λf=>⟨T,rfl⟩))
  |succ k=>
   cases k with
   |zero=>cases e;exact(JG i (aV (λp x=>.tail _ (PZ _ x)) M) (p.1.mono dD) p.2 (λz=>VC z dD))
   |succ k=>exact VC e (by induction k<;>exactλz=>nomatch z)
 ·exact zl (vs:=[.tup [.int 4,.ref a]]) s (QI d:680<=D+1) (P6 rfl) (J λp x=>.tail _ x) (.head _) ((OO (j:=j+1) (u.dec (by decide:2*210660<=870000))).dt dD) rfl (bP) q
theorem On(e:ns.length<=63):ad (aa l ns) 690 1303 [.fro l] (λa=>none) (λv a=>v=.bool true):=
 Jv (D:=679) e λh u rl σ k C=>IM k C dD λa=>rfl
end
end
end
section
open PyProof.Rows
noncomputable def uN:Value->Bool|.none=>true|_=>false
noncomputable def uI(i:Int):Value->Bool|.int j _=>decide (i=j)|_=>false
noncomputable def uS(i:Str):Value->Bool|.str j _=>decide (i=j)|_=>false
noncomputable def uR(a:Addr):Value->Bool|.ref b=>a==b|_=>false
noncomputable def uT(f:Addr->Bool):Value->Bool|.ref a=>f a|_=>false
noncomputable def LG:Data->Option X9|.seq items _=>some items.toList|_=>none
def Ll(o:Obj):Option X9:=bif o.cls==.type "tuple" &&o.dict.isNone&&o.slots.size==0 then LG o.data else none
mutual
noncomputable def oi(K:Frag):V->Value->Bool
 |.none=>uN
 |.int i=>uI i
 |.str x=>uS x
 |.fro a=>uR a
 |.tup l=>uT λa=>Ey (λo=>Ey (jr K l) (Ll o)) (K.lookup a)
 |.bool _=>λb=>false
 |.ref _=>λb=>false
 |.rng _=>λb=>false
noncomputable def jr(K:Frag):Z7->X9->Bool
 |[]=>List.isEmpty
 |a::l=>λr=>r.casesOn false λb r=>oi K a b&&jr K l r
end
theorem BD{o:Obj}{l:X9}(h:Ll o=some l):∃items n,o={cls:=.type "tuple",dict:=none,data:=.seq items n,slots:=#[]}/\l=items.toList:=by
 obtain⟨c,d,J,i⟩:=o;have h:(bif c==.type "tuple" &&d.isNone&&i.size==0 then LG J else none)=some l:=h;cases e:(c==.type "tuple" &&d.isNone&&i.size==0) with
 |false=>rw[e] at h;cases h
 |true=>rw[e] at h;have A:=vB e;have G:=vB A.1;obtain rfl:=Qd.mp G.1;obtain rfl:=S3.mp G.2;obtain rfl:=Array.eq_empty_of_size_eq_zero (Qd.mp A.2);cases J<;>first|exact⟨_,_,rfl,(Qh h).symm⟩|cases h
section
variable{w:World}{K:Frag}{h₀:Heap}{σ:Hp}{s:Shared}{v:Value}
theorem CY{i:Int}(h:uI i v=true):∃t,v=.int i t:=by cases v<;>first|exact VC h PC|exact⟨_,by exact rR (P9 h) rfl⟩
theorem BX{i:Str}(h:uS i v=true):∃t,v=.str i t:=by cases v<;>first|exact VC h PC|exact⟨_,by exact rR (P9 h) rfl⟩
theorem BN{i:Addr}(h:uR i v=true):v=.ref i:=by cases v<;>first|exact VC h PC|exact PR _ (Qd.mp h).symm
theorem CQ(h:uN v=true):v=.none:=by cases v<;>first|exact VC h PC|rfl
theorem Jt{f:Addr->Bool}(h:uT f v=true):∃a,v=.ref a/\f a=true:=by cases v<;>first|exact VC h PC|exact⟨_,rfl,h⟩
theorem Dw(X:K.In h₀)(R:aU w h₀ σ s):(∀a v,oi K a v=true->aG σ s.heap a v)/\∀l r,jr K l r=true->iB σ s.heap l r:=by
 have m:∀l,(∀r,jr K l r=true->iB σ s.heap l r)->∀v,oi K (.tup l) v=true->aG σ s.heap (.tup l) v:=λl k v h=>by refine am (Jt h) λa x h=>?_;subst x;obtain⟨o,e,h⟩:=fP h;obtain⟨g,d,h⟩:=fP h;obtain⟨items,n,rfl,rfl⟩:=BD d;exact⟨a,items,n,rfl,(R.old _ _ (X _ _ e)).1,(R.old _ _ (X _ _ e)).2,k _ h⟩
 have Y:∀a l,(∀v,oi K a v=true->aG σ s.heap a v)->(∀r,jr K l r=true->iB σ s.heap l r)->∀r,jr K (a::l) r=true->iB σ s.heap (a::l) r:=λa l M Q r h=>by
  cases r with
  |nil=>exact VC h PC
  |cons b r=>exact⟨b,r,rfl,M _ (vB h).1,Q _ (vB h).2⟩
 have i:∀{P:Prop},false=true->P:=λh=>VC h PC;exact⟨λa=>V.rec (motive_1:=λa=>∀v,oi K a v=true->aG σ s.heap a v) (motive_2:=λl=>∀r,jr K l r=true->iB σ s.heap l r) (λc h=>CQ h) (λc c=>i) (λc c h=>CY h) (λc c h=>BX h) m (λc c=>i) (λc c=>i) (λc c h=>BN h) (λc h=>Q4.mp h) Y a,
  λl=>V.rec_1 (motive_1:=λa=>∀v,oi K a v=true->aG σ s.heap a v) (motive_2:=λl=>∀r,jr K l r=true->iB σ s.heap l r) (λc h=>CQ h) (λc c=>i) (λc c h=>CY h) (λc c h=>BX h) m (λc c=>i) (λc c=>i) (λc c h=>BN h) (λc h=>Q4.mp h) Y l⟩
theorem C7(X:K.In h₀)(R:aU w h₀ σ s){a:V}{v:Value}(h:oi K a v=true):aG σ s.heap a v:=(Dw X R).1 a v h
end
def gN(x:Str):V6:=Co.lookup x
def nN(x:Str):Option Addr:=C2.lookup x
noncomputable def attrOk(K:Frag)(C:Addr)(n:Str):Bool:=
 plainGet K C n&&hasDictIn K C&&(match findIn K (.ref C) n with|some a=>noGet K a|none=>false)&&findIn K (.ref C) "__setattr__" ==some (some (.builtin "object.__setattr__"))&&plainOver K C&&takerIn K C n==some none
noncomputable def DN(K:Frag)(C:Addr)(n:Str)(f:Addr):Bool:=plainGet K C n&&findIn K (.ref C) n==some (some (.ref f))&&isFn K (.ref f)&&keepIn K (.ref f)
noncomputable def Dp(K:Frag)(C:Addr):Option Addr->Bool
 |some g=>makesIn K C&&findIn K (.ref C) "__init__" ==some (some (.ref g))&&typeIn K (.ref g)==some (.type "function")
 |none=>makesIn K C&&findIn K (.ref C) "__init__" ==some (some (.builtin "object.__init__"))
def Ep(K:Frag)(x:Str)(v:V):Bool:=match nsIn K mainGlobals x with
 |some (some u)=>oi K v u
 |_=>false
noncomputable def Dg(K:Frag)(x:Str)(f:Addr):Bool:=nsIn K mainGlobals x==some (some (.ref f))&&keepIn K (.ref f)
def GU(K:Frag)(b:Bi):Bool:=nsIn K mainGlobals (ky b)==some none&&bootBuiltins (ky b)==some (AH b)&& !((ky b)==("__name__":Str))
noncomputable section
theorem Fb(P:Params):(attrL.all λp=>p.2.all λn=>attrOk (lE P) p.1 n)=true:=by kernel_rfl
theorem FB(P:Params):(B6.all λp=>DN (lE P) p.1.1 p.1.2 p.2)=true:=by kernel_rfl
theorem CC(P:Params):(FZ.all λp=>Dp (lE P) p.1 p.2)=true:=by kernel_rfl
theorem FO(P:Params):(Co.all λp=>Ep (lE P) p.1 p.2)=true:=by kernel_rfl
theorem Gk(P:Params):(C2.all λp=>Dg (lE P) p.1 p.2)=true:=by kernel_rfl
theorem JO(P:Params):([Bi.len,.range,.sorted,.all,.str,.tuple].all λb=>GU (lE P) b)=true:=by kernel_rfl
theorem H6(P:Params):(lE P).lookup 206=some ⟨(.type "dict"),none,(.dict #[⟨3,(.int (3) 513),(.int (6) 563)⟩,⟨4,(.int (4) 515),(.int (5) 561)⟩,⟨5,(.int (5) 517),(.int (4) 559)⟩,⟨6,(.int (6) 519),(.int (1) 553)⟩,⟨7,(.int (7) 521),(.int (2) 555)⟩,⟨10,(.int (10) 527),(.int (7) 565)⟩] 6),#[]⟩:=by kernel_rfl
theorem Jo(P:Params):(lE P).lookup 793=some ⟨(.type "dict"),none,(.dict #[aM P "any" 1457 (.int (0) 507),aM P "unknown" 1458 (.int (1) 509),aM P "never" 1459 (.int (2) 511),aM P "void" 1460 (.int (3) 513),aM P "undefined" 1461 (.int (4) 515),aM P "null" 1462 (.int (5) 517),aM P "string" 1463 (.int (6) 519),aM P "number" 1464 (.int (7) 521),aM P "boolean" 1465 (.int (12) 531),aM P "object" 1466 (.int (10) 527)] 10),#[]⟩:=by kernel_rfl
end
mutual
theorem d6{t d:Type}[BEq t][LawfulBEq t]:∀{l:List (t×d)}{n:t}{c:d},l.lookup n=some c->(n,c)∈l
 |(k,v)::r,n,c,h=>by
  simp only[QX] at h;cases f:n==k with
  |true=>simp only[f] at h;cases h;exact rR (Qd.mp f) Ud
  |false=>simp only[f] at h;exact List.mem_cons_of_mem _ (d6 h)
theorem j0{w:World}{σ:Hp}{h:Heap}{i j:Int}{t C:Tok}:bF w σ h (.int i,.int j) ⟨hashInt i,.int i t,.int j C⟩:=⟨rfl,⟨t,rfl⟩,rfl,⟨C,rfl⟩⟩
theorem eW{w:World}{σ:Hp}{h:Heap}{i:Str}{j:Int}{t C:Tok}(x:cF (.str i)=true):bF w σ h (.str i,.int j) (aM w.params i t (.int j C)):=⟨x,⟨t,rfl⟩,rfl,⟨C,rfl⟩⟩
theorem Iu{w:World}{h₀:Heap}(X:(lE w.params).In h₀):∀a es,E7.lookup a=some es->(a==sysModules)=false/\∃v n,h₀.get? a=some {cls:=.type "dict",data:=.dict v n}/\(∀(σ:Hp)(s:Shared),aU w h₀ σ s->an (bF w σ s.heap) es v.toList)/\(es.map (·.1)).Nodup:=by
 intro a es h;have h:=d6 h;unfold E7 at h;simp only[P0,Um,PH,or_false] at h;rcases h with ⟨rfl,rfl⟩|⟨rfl,rfl⟩
 ·refine⟨by decide,_,_,X _ _ (H6 w.params),λσ s R=>?_,by decide+kernel⟩;exact .cons j0 (.cons j0 (.cons j0 (.cons j0 (.cons j0 (.cons j0 (.nil))))))
 refine⟨by decide,_,_,X _ _ (Jo w.params),λσ s R=>?_,by decide+kernel⟩;exact .cons (eW (by decide+kernel)) (.cons (eW (by decide+kernel)) (.cons (eW (by decide+kernel)) (.cons (eW (by decide+kernel)) (.cons (eW (by decide+kernel)) (.cons (eW (by decide+kernel)) (.cons (eW (by decide+kernel)) (.cons (eW (by decide+kernel)) (.cons (eW (by decide+kernel)) (.cons (eW (by decide+kernel)) (.nil))))))))))
theorem N3{l:Addr}{vs:X9}{ns:Z9}{h₀:Heap}{w:World}(r:h₀.IsList l vs.toArray)(x:IntsAre vs ns):∃items,h₀.IsList l items/\∀(σ:Hp)(s:Shared),aU w h₀ σ s->an (aG σ s.heap) (ns.map V.int) items.toList:=
 ⟨_,r,λσ s R=>by simpa using zF x⟩
set_option tactic.hygienic true in
theorem Jz{w:World}{h₀:Heap}{l:Addr}{vs:X9}{ns:Z9}(X:(lE w.params).In h₀)(r:h₀.IsList l vs.toArray)(x:IntsAre vs ns):wi w (lE w.params) h₀ (aa l ns) where
 attr:=λC n h=>by
  simp only[aa] at h
  split at h
  ·rename_i xs j
   have:=Qc.mp (Qc.mp (Fb w.params) _ (d6 j)) n (by simpa using h)
   simp only[attrOk,QW,Qd] at this
   obtain⟨⟨⟨⟨⟨G,d⟩,N⟩,o⟩,i⟩,p⟩:=this
   refine⟨G,d,?_,o,i,p⟩
   split at N
   ·exact⟨_,by assumption,N⟩
   ·cases N
  ·cases h
 meth:=λC n f h=>by
  have:=Qc.mp (FB w.params) _ (d6 (l:=B6) h)
  simp only[DN,QW,Qd] at this
  exact⟨this.1.1.1,this.1.1.2,this.1.2,this.2⟩
 cls:=λC g h=>by
  have:=Qc.mp (CC w.params) _ (d6 (l:=FZ) h)
  simp only[Dp,QW,Qd] at this
  exact⟨this.1.1,this.1.2,this.2⟩
 cls0:=λC h=>by
  have:=Qc.mp (CC w.params) _ (d6 (l:=FZ) h)
  simp only[Dp,QW,Qd] at this
  exact⟨this.1,this.2⟩
 fro:=Iu X
 seq:=λa k h=>by
  simp only[aa] at h
  split at h
  ·rename_i e
   subst e
   cases h
   exact N3 r x
  ·cases h
set_option tactic.hygienic true in
theorem Ih{w:World}{h₀:Heap}{l:Addr}{vs:X9}{ns:Z9}{mg mb:Str->X8}(X:(lE w.params).In h₀)(r:h₀.IsList l vs.toArray)(y:IntsAre vs ns)(one:(h₀.get? 1).isSome=true)(Q:h₀.Ns mainGlobals mg)(g:h₀.Ns builtinsNs mb)(c:∀x:Str,x≠"__name__" ->mb x=bootBuiltins x):Internal.Ctx w (lE w.params) h₀ (aa l ns) gN nN where
 tab:=Jz X r y
 inn:=X
 one:=one
 ns:=by
  refine⟨mg,mb,Q,g,λx v h=>?_,λx f h=>?_,λb=>?_⟩
  ·have:=Qc.mp (FO w.params) _ (d6 (l:=Co) h)
   unfold Ep at this
   split at this
   ·rename_i u e
    exact⟨u,mg_of X Q e,λσ s R=>C7 X R this⟩
   ·cases this
  ·have:=Qc.mp (Gk w.params) _ (d6 (l:=C2) h)
   simp only[Dg,QW,Qd] at this
   exact⟨mg_of X Q this.1,this.2⟩
  ·have:=Qc.mp (JO w.params) b (by cases b<;>simp)
   simp only[GU,QW,Qd,QD,RB] at this
   exact⟨mg_none_of X Q this.1.1,(c _ this.2).trans this.1.2⟩
noncomputable def O1:List (Addr×Y9):=[(512,["tab","s","t","kept","one"]),(757,["n","node","rule"]),(1231,["term","given","sort","one","needs","rests","weak","out","held","place","value","sign","late"]),(1236,["term","mask","one"])]
def OV(f:Addr)(d:FuncData):List (Str×Nat):=((O1.lookup f).getD ((d.scope.names.filter λx=>x.2==.local||x.2==.cell).map (·.1))).zipIdx
def Pi(K:Frag)(f:Addr):List (Str×Nat):=(K.lookup f).elim [] λo=>match o.data with
 |.func d=>OV f d
 |_=>[]
theorem Kc(P:Params):(Nh.all λp=>MW gN nN (lE P) p.1 p.2 (Pi (lE P) p.1))=true:=by kernel_rfl
theorem JI{w:World}{h₀:Heap}{l:Addr}{ns:Z9}(lim:h₀.NoLimit):zA (lE w.params) h₀ (aa l ns) gN nN:=⟨lim,λf F h=>⟨_,Qc.mp (Kc w.params) (f,F) (d6 (l:=Nh) h)⟩⟩
theorem IB(P:Params):((lE P).lookup 1).isSome=true:=by kernel_rfl
theorem M5(i:∀(l:Addr)(ns:Z9),ns.length<=63->ad (aa l ns) 690 1303 [.fro l] (λa=>none) (λv a=>v=.bool true)):Mh:=by
 intro w s jd mb B l vs ns T X t x j Q;have one:(s.heap.get? 1).isSome=true:=by obtain⟨o,k⟩:=Q3.mp (IB w.params);refine rR (X _ _ k) ?_;rfl
 have g:=Ih X t x one T.g T.b T.builtins;have U:=JI (l:=l) (ns:=ns) (w:=w) T.nolimit;have R:aU w s.heap (λa=>none) s:=⟨λa a e=>(by cases e),λb o e=>⟨rfl,e⟩,Q⟩;have h:Good 690 callerA:=⟨rfl,by decide,by decide⟩;refine Qj (BJ (prog:=ft) g U 690 (f:=1303) (vs:=[.fro l]) h R (.cons rfl .nil) (i l ns j)) (λv s' q=>oU q λu p n m r C=>?_) λa a z=>z.elim;subst C;refine⟨r,λb o e=>m.keep b o (λz=>z) e rfl,m.os,n.gens⟩
end
end
end
end Mine.Internal
theorem PySem.Challenge.cw_rh0134_01_holds : PySem.Challenge.rw_rh0134_01.Holds :=
 Mine.Internal.Nu (Mine.Internal.M5 fun l ns hn => Mine.Internal.On hn)
