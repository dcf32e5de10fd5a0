import PyProof.Rows.All
import OpenK.KLine
import KE.KxBytes
import KE.BytesMake
import KE.KBytesWalk
import KE.KBytesCut
import KE.KPop
import KE.KDictOf
import KE.KEqSeq
import KE.KIdxIf
import KE.KRevSl
import PySem.Challenge.RW_nu0041_01
open PySem PySem.W PyProof.Rows PySem.Calls PySem.Spec
set_option maxHeartbeats 0
set_option compiler.extract_closed false
set_option linter.all false
set_option Elab.async false
set_option tactic.hygienic false
set_option genSizeOf false
set_option genInjectivity false
set_option genCtorIdx false
set_option maxRecDepth 100000
set_option autoImplicit true
local macro_rules |`(tactic|omega)=>`(tactic|first|assumption|decide|exact Nat.lt_of_lt_of_le (by assumption) (by decide)|exact Nat.le_trans (by assumption) (by decide)|exact Nat.lt_of_le_of_lt (by assumption) (by decide)|exact Nat.le_of_lt (by assumption)|lia)
namespace Mine
def dg:=@Nat.lt_of_le_of_lt
def h7:=@List.getElem?_eq_getElem
def d5:=@Nat.le_trans
def fD:=@List.length_map
def gO:=@List.length_append
def kU:=@List.getD_eq_getElem?_getD
def i9:=@List.mem_cons_of_mem
def cJ:=@congrArg
def gI:=@Bool.and_eq_true
def gQ:=@Nat.le_add_right
def eP:=@wpAny_bind
def bT:=@if_pos
def fV:=@Nat.lt_trans
def fu:=@Nat.le_refl
def bX:=@if_neg
def jH:=@List.mem_cons_self
def iH:=@Option.some.inj
def jI:=@List.getElem?_map
def lG:=@Nat.le_of_ble_eq_true
def mF:=@Heap.get?_push_of_some
def iU:=@decide_eq_true
def kJ:=@of_decide_eq_true
def lW:=@Nat.lt_of_lt_of_le
def gi:=@wpAny_mono
def lH:=@decide_eq_true_eq
def eZ:=@congrFun
def nc:=@Heap.get?_push_size
def nL:=@Bool.false_eq_true
def nM:=@List.append_assoc
def jV:=@Nat.le_succ
def mG:=@Nat.add_le_add
def sd:=@List.getElem?_eq_none
def jJ:=@wpAny_pure
def rB:=@Nat.add_lt_add_left
def lX:=@Int.lt_trans
def nN:=@List.map_cons
def mH:=@Nat.zero_add
def xO:=@Int.fmod_eq_emod_of_nonneg
def qE:=@beq_self_eq_true
def qc:=@decide_eq_false
def ng:=@Nat.le_of_eq
def qd:=@List.map_append
def se:=@List.length_range'
def lY:=@Nat.zero_le
def rC:=@List.cons_ne_nil
def vP:=@Array.getElem?_toList
def uA:=@Nat.add_le_add_left
def rD:=@Nat.not_lt_zero
def sf:=@List.getElem_mem
def vQ:=@List.getElem?_set_ne
def uB:=@List.length_range
def qF:=@wpAny_holding
def zY:=@Nat.lt_of_succ_lt_succ
def uC:=@List.suffix_cons
def rE:=@Nat.add_assoc
def zZ:=@Nat.eq_of_beq_eq_true
def qG:=@Nat.ne_of_lt
def uD:=@Nat.le_add_left
def xP:=@Bool.false_ne_true
def sj:=@List.mem_cons
def rF:=@List.map_map
def jW:=@if_true
def EN:=@Int.fdiv_eq_ediv_of_nonneg
def qH:=@decide_true
def z0:=@List.getElem?_range
def qI:=@sizeLine_eq
def vR:=@List.append_nil
def sq:=@Nat.le_of_lt
def BW:=@Classical.choose_spec
def EO:=@Nat.succ_add_eq_add_succ
def EP:=@List.append_cancel_right
def xQ:=@Nat.lt_succ_self
def ER:=@Nat.lt_add_of_pos_right
def ES:=@List.getElem?_replicate
def tF:=@Heap.lt_size
def tG:=@Nat.add_comm
def z3:=@Nat.le_of_lt_succ
def ET:=@List.getElem?_set_self
def z4:=@Nat.succ_le_succ
def z5:=@Nat.succ_ne_self
def EU:=@List.take_append_drop
def EV:=@wpAny_allTrue_Or_cons
def BX:=@Int.natCast_nonneg
def vS:=@List.cons.inj
def xR:=@List.drop_zero
def Jl:=@List.getElem?_eq_none_iff
def EW:=@Nat.add_le_add_right
def O0:=@List.suffix_of_suffix_length_le
def vU:=@decide_false
def EX:=@List.length_reverse
def EY:=@PySem.mem_of_lookup
def Jm:=@Int.eq_ofNat_of_zero_le
def BY:=@List.length_take
def BZ:=@Nat.le_of_not_lt
def B0:=@List.not_mem_nil
def EZ:=@Nat.lt_of_lt_of_eq
def B3:=@List.length_set
def Jo:=@Heap.get?_update_self
def xS:=@codeAny_mono
def E0:=@wpAny_truthy_bool
def ED:=@Option.some.injEq
def EE:=@List.take_add_one
def EF:=@Bool.not_eq_true'
def BO:=@List.drop_drop
def BP:=@Heap.size_push
def EG:=@Nat.succ_lt_succ
def I5:=@Int.toNat_of_nonneg
def I6:=@Option.some_ne_none
def I7:=@builtinType_eq_fast
def zU:=@Int.le_trans
def zV:=@Nat.ne_of_gt
def Xd:=@List.append_ne_nil_of_right_ne_nil
def OI:=@Nat.exists_eq_add_of_le
def EH:=@Bool.or_eq_true
def OJ:=@Nat.add_sub_cancel_left
def I8:=@Nat.sub_add_cancel
def OK:=@PySem.F.plainAttrs_list
def BQ:=@wpAny_standAt
def I9:=@List.foldl_append
def I_:=@Nat.lt_succ_of_lt
def Ja:=@List.nodup_append
def Jb:=@getMethod_builtin
def EI:=@Int.add_nonneg
def BR:=@Int.zero_add
def BS:=@Nat.succ_pos
def OL:=@List.length_filter_le
def BU:=@Nat.succ.inj
def OM:=@List.mem_append_right
def Jc:=@List.take_length
def Jd:=@List.length_drop
def Je:=@List.all_eq_true
def ON:=@Nat.add_lt_add_right
def OO:=@List.getElem?_range'
def OP:=@Int.add_le_add_right
def OQ:=@List.getElem?_of_mem
def zW:=@beq_iff_eq
def OR:=@wpAny_isTrue_BoolOp
def Jf:=@List.range_succ
def Jg:=@Int.emod_nonneg
def OS:=@Nat.mul_le_mul_left
def OT:=@Heap.SameBut.update
def Jh:=@List.forIn_cons
def EJ:=@Int.sub_zero
def EK:=@Int.add_zero
def OU:=@List.getElem_range
def OV:=@Int.emod_eq_of_lt
def BV:=@Nat.sub_le
def OW:=@Nat.lt_of_succ_lt
def OX:=@Nat.le_of_succ_le
def zX:=@eq_of_beq
def OY:=@Heap.SameBut.refl
def OZ:=@wpAny_dictEntries
def EL:=@hideAll_get
def xN:=@if_false
def Ji:=@Bool.not_true
def Jj:=@Bool.or_false
def Jk:=@Bool.true_and
def EM:=@Nat.mod_lt
theorem g4 {a b:Bool} (h:a=true) (g:b=true):(a&&b)=true:=by rw[h,g];rfl
theorem alY:OpenLaw.wellSaid PySem.Challenge.rw_nu0041_01=true:=by
 refine(eZ Fast.te9446332074065402090 PySem.Challenge.rw_nu0041_01).trans ?_
 refine g4 (g4 (g4 (g4 (g4 (g4 (g4 (g4 (g4 (g4 (g4 (g4 (g4 (g4 (g4 (g4 (g4 (g4 ?a ?_) ?_) ?_) ?_) ?_) ?_) ?_) ?_) ?_) ?_) ?_) ?_) ?_) ?_) ?_) ?_) ?_) ?_
 case a=>
  refine g4 (g4 ?_ ?_) ?_
  refine g4 (g4 (g4 (g4 (g4 (g4 (g4 (g4 (g4 (g4 (g4 (g4 (g4 ?b ?_) ?_) ?_) ?_) ?_) ?_) ?_) ?_) ?_) ?_) ?_) ?_) ?_
  case b=>
   show Fast.tw12908688711261696721 PySem.Challenge.pw_nu0041_01=true
   refine g4 (g4 (g4 (g4 (g4 ?_ ?_) ?_) ?_) ?_) ?_
   all_goals (as_aux_lemma=>kernel_rfl)
  all_goals (as_aux_lemma=>kernel_rfl)
 all_goals (as_aux_lemma=>kernel_rfl)
noncomputable abbrev c3:=PySem.Challenge.pw_nu0041_01
noncomputable def r (a:Addr):Value:=.ref a
noncomputable def N:Value:=.none
noncomputable def aS (i:Int) (t:Nat):Value:=.int i t
noncomputable def af (x:Str) (t:Nat):Value:=.str x t
noncomputable def T (l:List Value):Obj:={cls:=.type "tuple",data:=.seq l.toArray}
noncomputable def l7 (l:List Value):Obj:={cls:=.none,data:=.fields l.toArray}
noncomputable def G (l:List Value):Obj:={cls:=.type "builtin_function_or_method",data:=.fields l.toArray}
noncomputable def cZ (l:List Value):Obj:={cls:=.type "getset_descriptor",data:=.fields l.toArray}
noncomputable def qT (l:List Value):Obj:={cls:=.type "super",data:=.fields l.toArray}
noncomputable def R (l:List (Option Value)):Obj:={cls:=.type "frame",slots:=l.toArray}
noncomputable def b4 (n:Nat) (l:List DictEntry):Obj:={cls:=.type "dict",data:=.dict l.toArray n}
noncomputable def E (P:Params) (x:Str) (t:Nat) (v:Value):DictEntry:=⟨PyData.keyHash P x,.str x t,v⟩
noncomputable def qP (n:Str) (eW mro:List Value) (ns:Addr) (amO:List Value) (mz:List (Option Value)):Obj:=
 {cls:=.type "type",data:=.cls {name:=n,bases:=eW,mro:=mro,ns:=ns,qualname:=n,subclasses:=amO},slots:=mz.toArray}
noncomputable def gw (w7 aln:Str) (t:Nat) (n3 ac eF:Int) (free:Addr) (afb:Bool) (pn:Addr) (loc l9 an5:Value) (fr:Int) (fj:Nat):Obj:=
 {cls:=.type "code",data:=.fields #[.str w7 t,.str aln (t+1),.str "/claim/cut.py" (t+2),aS n3 0,aS ac 0,aS 0 0,aS 0 0,aS eF 0,.ref free,.bool afb,aS 181 0,.ref pn,.none,loc,l9,an5,aS fr 0,aS n3 0,.str "/claim/cut.py" fj]}
structure ni where
 name:Str
 qual:Str
 jl:Arguments
 body:List Stmt
 sc:Scope
 line:Nat
 deriving Inhabited
noncomputable def adh (pre:Str):Stmt->ni
 | .FunctionDef n jl b _ _ _ sc _ _ pos=>⟨n,pre++n,jl,b,sc,pos.line⟩
 |_=>default
noncomputable def NP (i:Nat):Stmt:=(c3.main.body[i]?).getD (.Pass default)
noncomputable def aA (i:Nat):ni:=match NP i with
 | .FunctionDef n jl b _ _ _ sc _ _ pos=>⟨n,n,jl,b,sc,pos.line⟩
 |_=>default
noncomputable def cU (i j:Nat):ni:=match NP i with
 | .ClassDef c _ _ b _ _ _ _ _ _ _=>adh (c++".") ((b[j]?).getD (.Pass default))
 |_=>default
noncomputable def RA (f:ni) (xo code yv:Value):FuncData:=
 {name:=f.name,qualname:=f.qual,params:=f.jl,body:=.stmts f.body,scope:=f.sc,globals:=mainGlobals,closure:=[],defaults:=yv,kwdefaults:=.none,doc:=.none,pyModule:=xo,annotations:=none,code:=code,closureTuple:=.none,builtins:=builtinsNs}
noncomputable def M (f:ni):Obj:={cls:=.none,data:=.func {name:=f.name,qualname:=f.qual,params:=f.jl,body:=.stmts f.body,scope:=f.sc,globals:=builtinsNs,closure:=[],defaults:=.none,kwdefaults:=.none}}
noncomputable def Ca (f:ni) (xo code yv:Value):Obj:={cls:=.type "function",data:=.func (RA f xo code yv)}
noncomputable def VY:List Str->Nat->List Value
 |[],_=>[]
 |x::l,t=>.str x t::VY l (t+1)
noncomputable def ahs (f:ni):List Str:=(f.sc.names.filter λx=>x.2==.local).map (·.1)
noncomputable def bN (f:ni) (a t:Nat) (xo yv:Value):List Obj:=
 let l:=ahs f
 [T [],l7 [],T (VY l (t+3)),T [],M f,gw f.name f.qual t f.line f.jl.args.length 3 a true (a+1) (.ref (a+2)) (.ref (a+3)) (.ref (a+4)) ((t+3+l.length:Nat):Int) (t+4+l.length),Ca f xo (.ref (a+5)) yv]
noncomputable def wM (f:ni) (a t:Nat) (xo yv:Value):List Obj:=
 [T [],l7 [],M f,gw f.name f.qual t f.line f.jl.args.length 3 a true (a+1) .none .none (.ref (a+2)) ((t+3:Nat):Int) (t+4),Ca f xo (.ref (a+3)) yv]
noncomputable def zq:List (Nat×Nat×Nat)->List Value
 |[]=>[]
 |(a,b,c)::l=>.int a 0::.int b 0::.ref c::zq l
noncomputable def n7:Pos:=⟨0,0,0,0⟩
noncomputable def CF:Env:={scope:=c3.main.scope,locals:=mainNs,globals:=mainNs,cells:=[],code:=.ref 13,frame:=some 14}
noncomputable def nR:Code:=.body c3.main.body CF
noncomputable def AB (P:Params) (w7:Value):List DictEntry:=[
 E P "__name__" 165 w7,
 E P "__doc__" 166 N,
 E P "__package__" 167 N,
 E P "__loader__" 168 (.builtin "__main__.__loader__#opaque"),
 E P "__spec__" 169 N,
 E P "__annotations__" 170 (r 6),
 E P "__builtins__" 171 (r 4),
 E P "__file__" 173 (af "/claim/cut.py" 172),
 E P "__cached__" 174 N,
 E P "MillError" 217 (r 31),
 E P "HintFault" 233 (r 44),
 E P "LimitFault" 249 (r 56),
 E P "Routine" 282 (r 75),
 E P "Functions" 319 (r 103),
 E P "Call" 354 (r 124),
 E P "Place" 419 (r 173),
 E P "NPUSHB" 423 (aS 64 422),
 E P "NPUSHW" 425 (aS 65 424),
 E P "IF" 427 (aS 88 426),
 E P "ELSE" 429 (aS 27 428),
 E P "EIF" 431 (aS 89 430),
 E P "FDEF" 433 (aS 44 432),
 E P "IDEF" 435 (aS 137 434),
 E P "ENDF" 437 (aS 45 436),
 E P "FIRST_PUSHB" 439 (aS 176 438),
 E P "FIRST_PUSHW" 441 (aS 184 440),
 E P "BEHIND_PUSHES" 443 (aS 192 442),
 E P "octet_at" 451 (r 184),
 E P "is_push" 458 (r 191),
 E P "push_shape" 467 (r 198),
 E P "pushed" 482 (r 205),
 E P "behind" 494 (r 212),
 E P "behind_branch" 506 (r 219),
 E P "behind_function" 515 (r 226),
 E P "JMPR" 519 (aS 28 518),
 E P "JROT" 521 (aS 120 520),
 E P "JROF" 523 (aS 121 522),
 E P "CALL" 525 (aS 43 524),
 E P "LOOPCALL" 527 (aS 42 526),
 E P "MOST_CALLS" 529 (aS 32 528),
 E P "Machine" 619 (r 279),
 E P "ONE14" 623 (aS 16384 622),
 E P "ONE6" 625 (aS 64 624),
 E P "muldiv" 635 (r 290),
 E P "cut_div" 645 (r 297),
 E P "mul14" 653 (r 304),
 E P "dot14" 662 (r 311),
 E P "wrap32" 669 (r 318),
 E P "signed16" 676 (r 325),
 E P "whole_root" 684 (r 332),
 E P "unit" 693 (r 339),
 E P "floor6" 700 (r 346),
 E P "ceiling6" 707 (r 353),
 E P "apart" 717 (r 360),
 E P "measured" 726 (r 367),
 E P "dual_measured" 735 (r 374),
 E P "place_of" 744 (r 381),
 E P "touch" 753 (r 388),
 E P "step_of" 762 (r 395),
 E P "shifted" 775 (r 402),
 E P "move_point" 785 (r 409),
 E P "move_original" 799 (r 416),
 E P "along_freedom" 807 (r 423),
 E P "put_both" 816 (r 430),
 E P "NOUGHT" 821 (r 431),
 E P "do_gc" 831 (r 438),
 E P "do_scfs" 842 (r 445),
 E P "do_md" 855 (r 452),
 E P "crossing" 872 (r 459),
 E P "do_isect" 890 (r 466),
 E P "do_alignpts" 905 (r 473),
 E P "do_utp" 915 (r 480),
 E P "do_flippt" 926 (r 487),
 E P "do_flip_row" 938 (r 494),
 E P "mark_ops" 945 (r 501),
 E P "Rounding" 987 (r 525),
 E P "named" 998 (r 536),
 E P "super_rounding" 1010 (r 543),
 E P "rounded" 1022 (r 550),
 E P "size_of" 1031 (r 557),
 E P "signed_like" 1039 (r 564),
 E P "kept_apart" 1048 (r 571),
 E P "of_single_width" 1057 (r 578),
 E P "do_mdap" 1069 (r 585),
 E P "do_miap" 1082 (r 592),
 E P "refer" 1091 (r 599),
 E P "anchor_of" 1099 (r 606),
 E P "do_mdrp" 1114 (r 613),
 E P "do_mirp" 1131 (r 620),
 E P "do_msirp" 1145 (r 627),
 E P "do_alignrp" 1159 (r 634),
 E P "do_ip" 1178 (r 641),
 E P "relation_ops" 1186 (r 648),
 E P "VERSION" 1190 (aS 35 1189),
 E P "do_dup" 1198 (r 655),
 E P "do_pop" 1206 (r 662),
 E P "do_clear" 1214 (r 669),
 E P "do_swap" 1224 (r 676),
 E P "do_depth" 1232 (r 683),
 E P "do_cindex" 1240 (r 690),
 E P "do_mindex" 1246 (r 695),
 E P "do_roll" 1257 (r 702),
 E P "do_instctrl" 1265 (r 709),
 E P "compared" 1274 (r 716),
 E P "do_compare" 1284 (r 723),
 E P "do_not" 1292 (r 730),
 E P "do_odd" 1301 (r 737),
 E P "of_two" 1310 (r 744),
 E P "do_two" 1320 (r 751),
 E P "do_one" 1329 (r 758),
 E P "do_round" 1337 (r 765),
 E P "do_nothing" 1345 (r 772),
 E P "do_ws" 1355 (r 779),
 E P "do_rs" 1363 (r 786),
 E P "do_wcvtp" 1373 (r 793),
 E P "do_wcvtf" 1383 (r 800),
 E P "do_rcvt" 1391 (r 807),
 E P "delta_of" 1401 (r 814),
 E P "do_deltac" 1413 (r 821),
 E P "do_size" 1421 (r 828),
 E P "do_getinfo" 1429 (r 835),
 E P "stack_ops" 1438 (r 842),
 E P "reference" 1451 (r 849),
 E P "do_shp" 1464 (r 856),
 E P "bounds_of" 1472 (r 863),
 E P "shift_row" 1488 (r 870),
 E P "do_shc" 1499 (r 877),
 E P "do_shz" 1509 (r 884),
 E P "do_shpix" 1520 (r 891),
 E P "do_deltap" 1534 (r 898),
 E P "drawn_place" 1543 (r 905),
 E P "put_part" 1555 (r 912),
 E P "pair_of" 1564 (r 919),
 E P "draw_between" 1578 (r 926),
 E P "draw_contour" 1584 (r 931),
 E P "do_iup" 1597 (r 938),
 E P "shift_ops" 1605 (r 945),
 E P "point_ops" 1614 (r 952),
 E P "GRID" 1618 (aS 16384 1617),
 E P "SLANTED_GRID" 1620 (aS 11585 1619),
 E P "MOST_LOOP" 1622 (aS 65535 1621),
 E P "axis_of" 1629 (r 959),
 E P "do_axes" 1638 (r 966),
 E P "line_vector" 1649 (r 973),
 E P "two_points" 1660 (r 980),
 E P "do_line" 1673 (r 987),
 E P "do_dual_line" 1686 (r 994),
 E P "do_from_stack" 1697 (r 1001),
 E P "do_tell" 1706 (r 1008),
 E P "do_free_as_projection" 1714 (r 1015),
 E P "do_point" 1723 (r 1022),
 E P "do_zone" 1732 (r 1029),
 E P "do_loop" 1741 (r 1036),
 E P "do_distance" 1751 (r 1043),
 E P "do_flip" 1759 (r 1050),
 E P "do_rounding" 1768 (r 1057),
 E P "do_super" 1776 (r 1064),
 E P "vector_ops" 1784 (r 1071),
 E P "all_ops" 1793 (r 1078),
 E P "LEAST_DOT" 1797 (aS 1024 1796),
 E P "GraphicsState" 1877 (r 1123),
 E P "HintStack" 1946 (r 1179),
 E P "HintWork" 2025 (r 1230),
 E P "Zone" 2082 (r 1272),
 E P "_law_pool" 2095 (r 1283),
 E P "_law_take" 2104 (r 1290),
 E P "_law_one" 2112 (r 1297),
 E P "_law_push" 2118 (r 1302),
 E P "_law_near" 2127 (r 1309),
 E P "_law_rounded" 2137 (r 1316),
 E P "_law_at_least" 2145 (r 1323),
 E P "_law_go" 2154 (r 1330),
 E P "_law_gap" 2164 (r 1337),
 E P "_law_distance" 2177 (r 1344),
 E P "_law_between" 2191 (r 1351),
 E P "_law_drawn" 2197 (r 1356),
 E P "_law_draw_all" 2203 (r 1361),
 E P "_law_many" 2215 (r 1368),
 E P "_law_moves" 2221 (r 1373),
 E P "_law_others" 2237 (r 1380),
 E P "law" 2243 (r 1385)]
noncomputable def Ba:List (Nat×Nat×Nat):=[(2,0,20),(6,0,40),(8,0,52),(11,0,64),(16,0,85),(26,0,113),(33,0,134),(79,0,183),(83,0,190),(85,0,197),(90,0,204),(102,0,211),(108,0,218),(122,0,225),(137,0,232),(212,0,289),(219,0,296),(224,0,303),(226,0,310),(228,0,317),(230,0,324),(232,0,331),(239,0,338),(244,0,345),(246,0,352),(249,0,359),(251,0,366),(253,0,373),(255,0,380),(257,0,387),(262,0,394),(265,0,401),(274,0,408),(276,0,415),(284,0,422),(286,0,429),(291,0,437),(298,0,444),(305,0,451),(315,0,458),(325,0,465),(335,0,472),(343,0,479),(350,0,486),(355,0,493),(361,0,500),(370,0,507),(379,0,535),(385,0,542),(391,0,549),(401,0,556),(403,0,563),(405,0,570),(409,0,577),(413,0,584),(421,0,591),(437,0,598),(442,0,605),(445,0,612),(457,0,619),(480,0,626),(493,0,633),(500,0,640),(514,0,647),(524,0,654),(526,0,661),(528,0,668),(530,0,675),(534,0,682),(536,0,689),(538,0,694),(545,0,701),(550,0,708),(553,0,715),(569,0,722),(572,0,729),(574,0,736),(577,0,743),(591,0,750),(594,0,757),(605,0,764),(607,0,771),(609,0,778),(612,0,785),(614,0,792),(617,0,799),(620,0,806),(622,0,813),(628,0,820),(633,0,827),(635,0,834),(637,0,841),(652,0,848),(657,0,855),(662,0,862),(666,0,869),(672,0,876),(676,0,883),(683,0,890),(688,0,897),(696,0,904),(702,0,911),(705,0,918),(707,0,925),(713,0,930),(725,0,937),(731,0,944),(739,0,951),(748,0,958),(750,0,965),(757,0,972),(762,0,979),(766,0,986),(774,0,993),(779,0,1000),(787,0,1007),(791,0,1014),(793,0,1021),(801,0,1028),(810,0,1035),(815,0,1042),(831,0,1049),(833,0,1056),(836,0,1063),(838,0,1070),(854,0,1077),(861,0,1084),(898,0,1133),(924,0,1189),(955,0,1240),(975,0,1282),(988,0,1289),(995,0,1296),(997,0,1301),(1004,0,1308),(1007,0,1315),(1012,0,1322),(1014,0,1329),(1017,0,1336),(1019,0,1343),(1032,0,1350),(1039,0,1355),(1053,0,1360),(1059,0,1367),(1062,0,1372),(1102,0,1379),(1131,0,1384)]
noncomputable def ajy (P:Params):List Obj:=[T [(.type "Exception")],G [(.builtin "type.__prepare__"),(.type "type")],b4 5 [E P "__module__" 196 (af "outlinemill.errors" 187),E P "__qualname__" 198 (af "MillError" 197),E P "__firstlineno__" 200 (aS 2 199),E P "__init__" 208 (r 28),E P "__static_attributes__" 210 (r 29)],T [],l7 [(aS 4 0),(aS 4 0),(r 27)],gw "MillError" "MillError" 191 2 0 0 18 false 19 N N N 194 195,R [some (r 20),some (r 3),some (r 17),none,some (af "outlinemill.errors" 187),none,some (r 0)]]++
 (bN (cU 1 0) 22 201 (af "outlinemill.errors" 187) N++
 ([T [(af "message" 209)],b4 3 [E P "__module__" 196 (af "outlinemill.errors" 187),E P "__firstlineno__" 200 (aS 2 199),E P "__init__" 208 (r 28),E P "__static_attributes__" 210 (r 29),E P "__weakref__" 212 (r 32),E P "__doc__" 213 N],qP "MillError" [(.type "Exception")] [(r 31),(.type "Exception"),(.type "BaseException"),(.type "object")] 30 [(r 44),(r 56)] [some (r 15),none,some (af "MillError" 189),some (af "MillError" 197),some (.builtin "Exception.__new__"),some (.bool true)],cZ [(af "__weakref__" 211),(r 31),(.builtin "ExceptionGroup.__weakref__"),N],qT [(r 31),(r 31),(r 31)],G [(.builtin "object.__init_subclass__"),(r 31)],T [(r 31)],G [(.builtin "type.__prepare__"),(.type "type")],b4 4 [E P "__module__" 225 (af "outlinemill.errors" 187),E P "__qualname__" 227 (af "HintFault" 226),E P "__firstlineno__" 229 (aS 6 228),E P "__static_attributes__" 230 (r 42)],T [],l7 [],gw "HintFault" "HintFault" 220 6 0 0 38 false 39 N N N 223 224,R [some (r 40),some (r 3),some (r 37),none,some (af "outlinemill.errors" 187),none,some (r 0)],T [],b4 2 [E P "__module__" 225 (af "outlinemill.errors" 187),E P "__firstlineno__" 229 (aS 6 228),E P "__static_attributes__" 230 (r 42),E P "__doc__" 231 N],qP "HintFault" [(r 31)] [(r 44),(r 31),(.type "Exception"),(.type "BaseException"),(.type "object")] 43 [] [some (r 35),none,some (af "HintFault" 218),some (af "HintFault" 226),some (.builtin "Exception.__new__"),some (.bool true)],qT [(r 44),(r 44),(r 44)],G [(.builtin "object.__init_subclass__"),(r 44)],T [(r 31)],G [(.builtin "type.__prepare__"),(.type "type")],b4 4 [E P "__module__" 241 (af "outlinemill.errors" 187),E P "__qualname__" 243 (af "LimitFault" 242),E P "__firstlineno__" 245 (aS 8 244),E P "__static_attributes__" 246 (r 54)],T [],l7 [],gw "LimitFault" "LimitFault" 236 8 0 0 50 false 51 N N N 239 240,R [some (r 52),some (r 3),some (r 49),none,some (af "outlinemill.errors" 187),none,some (r 0)],T [],b4 2 [E P "__module__" 241 (af "outlinemill.errors" 187),E P "__firstlineno__" 245 (aS 8 244),E P "__static_attributes__" 246 (r 54),E P "__doc__" 247 N],qP "LimitFault" [(r 31)] [(r 56),(r 31),(.type "Exception"),(.type "BaseException"),(.type "object")] 55 [] [some (r 47),none,some (af "LimitFault" 234),some (af "LimitFault" 242),some (.builtin "Exception.__new__"),some (.bool true)],qT [(r 56),(r 56),(r 56)],G [(.builtin "object.__init_subclass__"),(r 56)],T [],G [(.builtin "type.__prepare__"),(.type "type")],b4 5 [E P "__module__" 259 (af "outlinemill.hint_calls" 250),E P "__qualname__" 261 (af "Routine" 260),E P "__firstlineno__" 263 (aS 11 262),E P "__init__" 272 (r 72),E P "__static_attributes__" 275 (r 73)],T [],l7 [(aS 13 0),(aS 4 0),(r 71)],gw "Routine" "Routine" 254 11 0 0 62 false 63 N N N 257 258,R [some (r 64),some (r 3),some (r 61),none,some (af "outlinemill.hint_calls" 250),none,some (r 0)]]++
 (bN (cU 5 0) 66 264 (af "outlinemill.hint_calls" 250) N++
 ([T [(af "begin" 273),(af "code" 274)],b4 4 [E P "__module__" 259 (af "outlinemill.hint_calls" 250),E P "__firstlineno__" 263 (aS 11 262),E P "__init__" 272 (r 72),E P "__static_attributes__" 275 (r 73),E P "__dict__" 277 (r 76),E P "__weakref__" 279 (r 77),E P "__doc__" 280 N],qP "Routine" [(.type "object")] [(r 75),(.type "object")] 74 [] [none,none,some (af "Routine" 252),some (af "Routine" 260),some (.builtin "object.__new__"),some (.bool true)],cZ [(af "__dict__" 276),(r 75),(.builtin "function.__dict__"),(.builtin "function.__dict__#set")],cZ [(af "__weakref__" 278),(r 75),(.builtin "ExceptionGroup.__weakref__"),N],qT [(r 75),(r 75),(r 75)],G [(.builtin "object.__init_subclass__"),(r 75)],T [],G [(.builtin "type.__prepare__"),(.type "type")],b4 6 [E P "__module__" 290 (af "outlinemill.hint_calls" 250),E P "__qualname__" 292 (af "Functions" 291),E P "__firstlineno__" 294 (aS 16 293),E P "__init__" 301 (r 93),E P "function" 309 (r 100),E P "__static_attributes__" 312 (r 101)],T [],l7 [(aS 18 0),(aS 4 0),(r 92),(aS 22 0),(aS 4 0),(r 99)],gw "Functions" "Functions" 285 16 0 0 83 false 84 N N N 288 289,R [some (r 85),some (r 3),some (r 82),none,some (af "outlinemill.hint_calls" 250),none,some (r 0)]]++
 (bN (cU 6 0) 87 295 (af "outlinemill.hint_calls" 250) N++
 (bN (cU 6 1) 94 302 (af "outlinemill.hint_calls" 250) N++
 ([T [(af "functions" 310),(af "instructions" 311)],b4 4 [E P "__module__" 290 (af "outlinemill.hint_calls" 250),E P "__firstlineno__" 294 (aS 16 293),E P "__init__" 301 (r 93),E P "function" 309 (r 100),E P "__static_attributes__" 312 (r 101),E P "__dict__" 314 (r 104),E P "__weakref__" 316 (r 105),E P "__doc__" 317 N],qP "Functions" [(.type "object")] [(r 103),(.type "object")] 102 [] [none,none,some (af "Functions" 283),some (af "Functions" 291),some (.builtin "object.__new__"),some (.bool true)],cZ [(af "__dict__" 313),(r 103),(.builtin "function.__dict__"),(.builtin "function.__dict__#set")],cZ [(af "__weakref__" 315),(r 103),(.builtin "ExceptionGroup.__weakref__"),N],qT [(r 103),(r 103),(r 103)],G [(.builtin "object.__init_subclass__"),(r 103)],T [],G [(.builtin "type.__prepare__"),(.type "type")],b4 5 [E P "__module__" 327 (af "outlinemill.hint_calls" 250),E P "__qualname__" 329 (af "Call" 328),E P "__firstlineno__" 331 (aS 26 330),E P "__init__" 342 (r 121),E P "__static_attributes__" 347 (r 122)],T [],l7 [(aS 28 0),(aS 4 0),(r 120)],gw "Call" "Call" 322 26 0 0 111 false 112 N N N 325 326,R [some (r 113),some (r 3),some (r 110),none,some (af "outlinemill.hint_calls" 250),none,some (r 0)]]++
 (bN (cU 7 0) 115 332 (af "outlinemill.hint_calls" 250) N++
 ([T [(af "at" 343),(af "code" 344),(af "left" 345),(af "routine" 346)],b4 4 [E P "__module__" 327 (af "outlinemill.hint_calls" 250),E P "__firstlineno__" 331 (aS 26 330),E P "__init__" 342 (r 121),E P "__static_attributes__" 347 (r 122),E P "__dict__" 349 (r 125),E P "__weakref__" 351 (r 126),E P "__doc__" 352 N],qP "Call" [(.type "object")] [(r 124),(.type "object")] 123 [] [none,none,some (af "Call" 320),some (af "Call" 328),some (.builtin "object.__new__"),some (.bool true)],cZ [(af "__dict__" 348),(r 124),(.builtin "function.__dict__"),(.builtin "function.__dict__#set")],cZ [(af "__weakref__" 350),(r 124),(.builtin "ExceptionGroup.__weakref__"),N],qT [(r 124),(r 124),(r 124)],G [(.builtin "object.__init_subclass__"),(r 124)],T [],G [(.builtin "type.__prepare__"),(.type "type")],b4 9 [E P "__module__" 362 (af "outlinemill.hint_calls" 250),E P "__qualname__" 364 (af "Place" 363),E P "__firstlineno__" 366 (aS 33 365),E P "__init__" 375 (r 142),E P "is_over" 382 (r 149),E P "go" 390 (r 156),E P "call" 399 (r 163),E P "leave" 407 (r 170),E P "__static_attributes__" 412 (r 171)],T [],l7 [(aS 35 0),(aS 4 0),(r 141),(aS 41 0),(aS 4 0),(r 148),(aS 44 0),(aS 4 0),(r 155),(aS 49 0),(aS 4 0),(r 162),(aS 57 0),(aS 4 0),(r 169)],gw "Place" "Place" 357 33 0 0 132 false 133 N N N 360 361,R [some (r 134),some (r 3),some (r 131),none,some (af "outlinemill.hint_calls" 250),none,some (r 0)]]++
 (bN (cU 8 0) 136 367 (af "outlinemill.hint_calls" 250) N++
 (bN (cU 8 1) 143 376 (af "outlinemill.hint_calls" 250) N++
 (bN (cU 8 2) 150 383 (af "outlinemill.hint_calls" 250) N++
 (bN (cU 8 3) 157 391 (af "outlinemill.hint_calls" 250) N++
 (bN (cU 8 4) 164 400 (af "outlinemill.hint_calls" 250) N++
 ([T [(af "at" 408),(af "calls" 409),(af "code" 410),(af "most_calls" 411)],b4 4 [E P "__module__" 362 (af "outlinemill.hint_calls" 250),E P "__firstlineno__" 366 (aS 33 365),E P "__init__" 375 (r 142),E P "is_over" 382 (r 149),E P "go" 390 (r 156),E P "call" 399 (r 163),E P "leave" 407 (r 170),E P "__static_attributes__" 412 (r 171),E P "__dict__" 414 (r 174),E P "__weakref__" 416 (r 175),E P "__doc__" 417 N],qP "Place" [(.type "object")] [(r 173),(.type "object")] 172 [] [none,none,some (af "Place" 355),some (af "Place" 363),some (.builtin "object.__new__"),some (.bool true)],cZ [(af "__dict__" 413),(r 173),(.builtin "function.__dict__"),(.builtin "function.__dict__#set")],cZ [(af "__weakref__" 415),(r 173),(.builtin "ExceptionGroup.__weakref__"),N],qT [(r 173),(r 173),(r 173)],G [(.builtin "object.__init_subclass__"),(r 173)]]++
 (bN (aA 21) 178 444 (af "outlinemill.hint_code" 420) N++
 (bN (aA 22) 185 452 (af "outlinemill.hint_code" 420) N++
 (bN (aA 23) 192 459 (af "outlinemill.hint_code" 420) N++
 (bN (aA 24) 199 468 (af "outlinemill.hint_code" 420) N++
 (bN (aA 25) 206 483 (af "outlinemill.hint_code" 420) N++
 (bN (aA 26) 213 495 (af "outlinemill.hint_code" 420) N++
 (bN (aA 27) 220 507 (af "outlinemill.hint_code" 420) N++
 ([T [],G [(.builtin "type.__prepare__"),(.type "type")],b4 10 [E P "__module__" 537 (af "outlinemill.hint_machine" 516),E P "__qualname__" 539 (af "Machine" 538),E P "__firstlineno__" 541 (aS 137 540),E P "__init__" 554 (r 241),E P "run" 561 (r 248),E P "step" 573 (r 255),E P "branch" 582 (r 262),E P "jump" 594 (r 269),E P "routine" 605 (r 276),E P "__static_attributes__" 612 (r 277)],T [],l7 [(aS 139 0),(aS 4 0),(r 240),(aS 147 0),(aS 4 0),(r 247),(aS 155 0),(aS 4 0),(r 254),(aS 180 0),(aS 4 0),(r 261),(aS 187 0),(aS 4 0),(r 268),(aS 198 0),(aS 4 0),(r 275)],gw "Machine" "Machine" 532 137 0 0 230 false 231 N N N 535 536,R [some (r 232),some (r 3),some (r 229),none,some (af "outlinemill.hint_machine" 516),none,some (r 0)],T [(aS 10000 542)]]++
 (bN (cU 35 0) 235 543 (af "outlinemill.hint_machine" 516) (r 234)))))))))))))))))))))))))
noncomputable def ajz (P:Params):List Obj:=bN (cU 35 1) 242 555 (af "outlinemill.hint_machine" 516) N++
 (bN (cU 35 2) 249 562 (af "outlinemill.hint_machine" 516) N++
 (bN (cU 35 3) 256 574 (af "outlinemill.hint_machine" 516) N++
 (bN (cU 35 4) 263 583 (af "outlinemill.hint_machine" 516) N++
 (bN (cU 35 5) 270 595 (af "outlinemill.hint_machine" 516) N++
 ([T [(af "functions" 606),(af "most_steps" 607),(af "ops" 608),(af "place" 609),(af "steps" 610),(af "work" 611)],b4 4 [E P "__module__" 537 (af "outlinemill.hint_machine" 516),E P "__firstlineno__" 541 (aS 137 540),E P "__init__" 554 (r 241),E P "run" 561 (r 248),E P "step" 573 (r 255),E P "branch" 582 (r 262),E P "jump" 594 (r 269),E P "routine" 605 (r 276),E P "__static_attributes__" 612 (r 277),E P "__dict__" 614 (r 280),E P "__weakref__" 616 (r 281),E P "__doc__" 617 N],qP "Machine" [(.type "object")] [(r 279),(.type "object")] 278 [] [none,none,some (af "Machine" 530),some (af "Machine" 538),some (.builtin "object.__new__"),some (.bool true)],cZ [(af "__dict__" 613),(r 279),(.builtin "function.__dict__"),(.builtin "function.__dict__#set")],cZ [(af "__weakref__" 615),(r 279),(.builtin "ExceptionGroup.__weakref__"),N],qT [(r 279),(r 279),(r 279)],G [(.builtin "object.__init_subclass__"),(r 279)]])))))
noncomputable def DB (P:Params):List Obj:=ajy P++(ajz P)
noncomputable def ajA (P:Params):List Obj:=bN (aA 39) 284 626 (af "outlinemill.hint_numbers" 620) N++
 (bN (aA 40) 291 636 (af "outlinemill.hint_numbers" 620) N++
 (bN (aA 41) 298 646 (af "outlinemill.hint_numbers" 620) N++
 (bN (aA 42) 305 654 (af "outlinemill.hint_numbers" 620) N++
 (bN (aA 43) 312 663 (af "outlinemill.hint_numbers" 620) N++
 (bN (aA 44) 319 670 (af "outlinemill.hint_numbers" 620) N++
 (bN (aA 45) 326 677 (af "outlinemill.hint_numbers" 620) N++
 (bN (aA 46) 333 685 (af "outlinemill.hint_numbers" 620) N++
 (bN (aA 47) 340 694 (af "outlinemill.hint_numbers" 620) N++
 (bN (aA 48) 347 701 (af "outlinemill.hint_numbers" 620) N++
 (bN (aA 50) 354 710 (af "outlinemill.hint_moves" 708) N++
 (bN (aA 51) 361 718 (af "outlinemill.hint_moves" 708) N++
 (bN (aA 52) 368 727 (af "outlinemill.hint_moves" 708) N++
 (bN (aA 53) 375 736 (af "outlinemill.hint_moves" 708) N++
 (bN (aA 54) 382 745 (af "outlinemill.hint_moves" 708) N++
 (bN (aA 55) 389 754 (af "outlinemill.hint_moves" 708) N++
 (bN (aA 56) 396 763 (af "outlinemill.hint_moves" 708) N++
 (bN (aA 57) 403 776 (af "outlinemill.hint_moves" 708) N++
 (bN (aA 58) 410 786 (af "outlinemill.hint_moves" 708) N++
 (bN (aA 59) 417 800 (af "outlinemill.hint_moves" 708) N++
 (bN (aA 60) 424 808 (af "outlinemill.hint_moves" 708) N++
 ([T [(aS 0 819),(aS 0 820)]]++
 (bN (aA 63) 432 822 (af "outlinemill.hint_marks" 817) N++
 (bN (aA 64) 439 832 (af "outlinemill.hint_marks" 817) N++
 (bN (aA 65) 446 843 (af "outlinemill.hint_marks" 817) N))))))))))))))))))))))))
noncomputable def ajB (P:Params):List Obj:=bN (aA 66) 453 856 (af "outlinemill.hint_marks" 817) N++
 (bN (aA 67) 460 873 (af "outlinemill.hint_marks" 817) N++
 (bN (aA 68) 467 891 (af "outlinemill.hint_marks" 817) N++
 (bN (aA 69) 474 906 (af "outlinemill.hint_marks" 817) N++
 (bN (aA 70) 481 916 (af "outlinemill.hint_marks" 817) N++
 (bN (aA 71) 488 927 (af "outlinemill.hint_marks" 817) N++
 (bN (aA 72) 495 939 (af "outlinemill.hint_marks" 817) N++
 ([T [],G [(.builtin "type.__prepare__"),(.type "type")],b4 6 [E P "__module__" 955 (af "outlinemill.hint_rounds" 946),E P "__qualname__" 957 (af "Rounding" 956),E P "__firstlineno__" 959 (aS 370 958),E P "__init__" 969 (r 515),E P "row" 976 (r 522),E P "__static_attributes__" 980 (r 523)],T [],l7 [(aS 372 0),(aS 4 0),(r 514),(aS 377 0),(aS 4 0),(r 521)],gw "Rounding" "Rounding" 950 370 0 0 505 false 506 N N N 953 954,R [some (r 507),some (r 3),some (r 504),none,some (af "outlinemill.hint_rounds" 946),none,some (r 0)]]++
 (bN (cU 74 0) 509 960 (af "outlinemill.hint_rounds" 946) N++
 (bN (cU 74 1) 516 970 (af "outlinemill.hint_rounds" 946) N++
 ([T [(af "period" 977),(af "phase" 978),(af "threshold" 979)],b4 4 [E P "__module__" 955 (af "outlinemill.hint_rounds" 946),E P "__firstlineno__" 959 (aS 370 958),E P "__init__" 969 (r 515),E P "row" 976 (r 522),E P "__static_attributes__" 980 (r 523),E P "__dict__" 982 (r 526),E P "__weakref__" 984 (r 527),E P "__doc__" 985 N],qP "Rounding" [(.type "object")] [(r 525),(.type "object")] 524 [] [none,none,some (af "Rounding" 948),some (af "Rounding" 956),some (.builtin "object.__new__"),some (.bool true)],cZ [(af "__dict__" 981),(r 525),(.builtin "function.__dict__"),(.builtin "function.__dict__#set")],cZ [(af "__weakref__" 983),(r 525),(.builtin "ExceptionGroup.__weakref__"),N],qT [(r 525),(r 525),(r 525)],G [(.builtin "object.__init_subclass__"),(r 525)]]++
 (bN (aA 75) 530 988 (af "outlinemill.hint_rounds" 946) N++
 (bN (aA 76) 537 999 (af "outlinemill.hint_rounds" 946) N++
 (bN (aA 77) 544 1011 (af "outlinemill.hint_rounds" 946) N++
 (bN (aA 79) 551 1025 (af "outlinemill.hint_relations" 1023) N++
 (bN (aA 80) 558 1032 (af "outlinemill.hint_relations" 1023) N++
 (bN (aA 81) 565 1040 (af "outlinemill.hint_relations" 1023) N++
 (bN (aA 82) 572 1049 (af "outlinemill.hint_relations" 1023) N++
 (bN (aA 83) 579 1058 (af "outlinemill.hint_relations" 1023) N++
 (bN (aA 84) 586 1070 (af "outlinemill.hint_relations" 1023) N++
 (bN (aA 85) 593 1083 (af "outlinemill.hint_relations" 1023) N++
 (bN (aA 86) 600 1092 (af "outlinemill.hint_relations" 1023) N++
 (bN (aA 87) 607 1100 (af "outlinemill.hint_relations" 1023) N++
 (bN (aA 88) 614 1115 (af "outlinemill.hint_relations" 1023) N++
 (bN (aA 89) 621 1132 (af "outlinemill.hint_relations" 1023) N))))))))))))))))))))))))
noncomputable def ajC (P:Params):List Obj:=bN (aA 90) 628 1146 (af "outlinemill.hint_relations" 1023) N++
 (bN (aA 91) 635 1160 (af "outlinemill.hint_relations" 1023) N++
 (bN (aA 92) 642 1179 (af "outlinemill.hint_relations" 1023) N++
 (bN (aA 95) 649 1191 (af "outlinemill.hint_stack" 1187) N++
 (bN (aA 96) 656 1199 (af "outlinemill.hint_stack" 1187) N++
 (bN (aA 97) 663 1207 (af "outlinemill.hint_stack" 1187) N++
 (bN (aA 98) 670 1215 (af "outlinemill.hint_stack" 1187) N++
 (bN (aA 99) 677 1225 (af "outlinemill.hint_stack" 1187) N)))))))
noncomputable def HR (P:Params):List Obj:=ajA P++(ajB P++(ajC P))
noncomputable def ajD (P:Params):List Obj:=bN (aA 100) 684 1233 (af "outlinemill.hint_stack" 1187) N++
 (wM (aA 101) 691 1241 (af "outlinemill.hint_stack" 1187) N++
 (bN (aA 102) 696 1247 (af "outlinemill.hint_stack" 1187) N++
 (bN (aA 103) 703 1258 (af "outlinemill.hint_stack" 1187) N++
 (bN (aA 104) 710 1266 (af "outlinemill.hint_stack" 1187) N++
 (bN (aA 105) 717 1275 (af "outlinemill.hint_stack" 1187) N++
 (bN (aA 106) 724 1285 (af "outlinemill.hint_stack" 1187) N++
 (bN (aA 107) 731 1293 (af "outlinemill.hint_stack" 1187) N++
 (bN (aA 108) 738 1302 (af "outlinemill.hint_stack" 1187) N++
 (bN (aA 109) 745 1311 (af "outlinemill.hint_stack" 1187) N++
 (bN (aA 110) 752 1321 (af "outlinemill.hint_stack" 1187) N++
 (bN (aA 111) 759 1330 (af "outlinemill.hint_stack" 1187) N++
 (bN (aA 112) 766 1338 (af "outlinemill.hint_stack" 1187) N++
 (bN (aA 113) 773 1346 (af "outlinemill.hint_stack" 1187) N++
 (bN (aA 114) 780 1356 (af "outlinemill.hint_stack" 1187) N++
 (bN (aA 115) 787 1364 (af "outlinemill.hint_stack" 1187) N++
 (bN (aA 116) 794 1374 (af "outlinemill.hint_stack" 1187) N++
 (bN (aA 117) 801 1384 (af "outlinemill.hint_stack" 1187) N++
 (bN (aA 118) 808 1392 (af "outlinemill.hint_stack" 1187) N++
 (bN (aA 119) 815 1402 (af "outlinemill.hint_stack" 1187) N++
 (bN (aA 120) 822 1414 (af "outlinemill.hint_stack" 1187) N++
 (bN (aA 121) 829 1422 (af "outlinemill.hint_stack" 1187) N++
 (bN (aA 122) 836 1430 (af "outlinemill.hint_stack" 1187) N++
 (bN (aA 124) 843 1441 (af "outlinemill.hint_shifts" 1439) N++
 (bN (aA 125) 850 1452 (af "outlinemill.hint_shifts" 1439) N))))))))))))))))))))))))
noncomputable def ajE (P:Params):List Obj:=bN (aA 126) 857 1465 (af "outlinemill.hint_shifts" 1439) N++
 (bN (aA 127) 864 1473 (af "outlinemill.hint_shifts" 1439) N++
 (bN (aA 128) 871 1489 (af "outlinemill.hint_shifts" 1439) N++
 (bN (aA 129) 878 1500 (af "outlinemill.hint_shifts" 1439) N++
 (bN (aA 130) 885 1510 (af "outlinemill.hint_shifts" 1439) N++
 (bN (aA 131) 892 1521 (af "outlinemill.hint_shifts" 1439) N++
 (bN (aA 132) 899 1535 (af "outlinemill.hint_shifts" 1439) N++
 (bN (aA 133) 906 1544 (af "outlinemill.hint_shifts" 1439) N++
 (bN (aA 134) 913 1556 (af "outlinemill.hint_shifts" 1439) N++
 (bN (aA 135) 920 1565 (af "outlinemill.hint_shifts" 1439) N++
 (wM (aA 136) 927 1579 (af "outlinemill.hint_shifts" 1439) N++
 (bN (aA 137) 932 1585 (af "outlinemill.hint_shifts" 1439) N++
 (bN (aA 138) 939 1598 (af "outlinemill.hint_shifts" 1439) N++
 (bN (aA 140) 946 1608 (af "outlinemill.hint_points" 1606) N++
 (bN (aA 145) 953 1623 (af "outlinemill.hint_vectors" 1615) N++
 (bN (aA 146) 960 1630 (af "outlinemill.hint_vectors" 1615) N++
 (bN (aA 147) 967 1639 (af "outlinemill.hint_vectors" 1615) N++
 (bN (aA 148) 974 1650 (af "outlinemill.hint_vectors" 1615) N++
 (bN (aA 149) 981 1661 (af "outlinemill.hint_vectors" 1615) N++
 (bN (aA 150) 988 1674 (af "outlinemill.hint_vectors" 1615) N++
 (bN (aA 151) 995 1687 (af "outlinemill.hint_vectors" 1615) N++
 (bN (aA 152) 1002 1698 (af "outlinemill.hint_vectors" 1615) N++
 (bN (aA 153) 1009 1707 (af "outlinemill.hint_vectors" 1615) N++
 (bN (aA 154) 1016 1715 (af "outlinemill.hint_vectors" 1615) N++
 (bN (aA 155) 1023 1724 (af "outlinemill.hint_vectors" 1615) N))))))))))))))))))))))))
noncomputable def ajF (P:Params):List Obj:=bN (aA 156) 1030 1733 (af "outlinemill.hint_vectors" 1615) N++
 (bN (aA 157) 1037 1742 (af "outlinemill.hint_vectors" 1615) N++
 (bN (aA 158) 1044 1752 (af "outlinemill.hint_vectors" 1615) N++
 (bN (aA 159) 1051 1760 (af "outlinemill.hint_vectors" 1615) N++
 (bN (aA 160) 1058 1769 (af "outlinemill.hint_vectors" 1615) N++
 (bN (aA 161) 1065 1777 (af "outlinemill.hint_vectors" 1615) N++
 (bN (aA 163) 1072 1787 (af "outlinemill.hint_ops" 1785) N))))))
noncomputable def MS (P:Params):List Obj:=ajD P++(ajE P++(ajF P))
noncomputable def ajG (P:Params):List Obj:=[T [],G [(.builtin "type.__prepare__"),(.type "type")],b4 9 [E P "__module__" 1805 (af "outlinemill.hint_state" 1794),E P "__qualname__" 1807 (af "GraphicsState" 1806),E P "__firstlineno__" 1809 (aS 861 1808),E P "__init__" 1816 (r 1092),E P "free_dot" 1824 (r 1099),E P "projected" 1833 (r 1106),E P "dual_projected" 1842 (r 1113),E P "row" 1851 (r 1120),E P "__static_attributes__" 1870 (r 1121)],T [],l7 [(aS 863 0),(aS 4 0),(r 1091),(aS 883 0),(aS 4 0),(r 1098),(aS 887 0),(aS 4 0),(r 1105),(aS 890 0),(aS 4 0),(r 1112),(aS 893 0),(aS 4 0),(r 1119)],gw "GraphicsState" "GraphicsState" 1800 861 0 0 1082 false 1083 N N N 1803 1804,R [some (r 1084),some (r 3),some (r 1081),none,some (af "outlinemill.hint_state" 1794),none,some (r 0)]]++
 (bN (cU 166 0) 1086 1810 (af "outlinemill.hint_state" 1794) N++
 (bN (cU 166 1) 1093 1817 (af "outlinemill.hint_state" 1794) N++
 (bN (cU 166 2) 1100 1825 (af "outlinemill.hint_state" 1794) N++
 (bN (cU 166 3) 1107 1834 (af "outlinemill.hint_state" 1794) N++
 (bN (cU 166 4) 1114 1843 (af "outlinemill.hint_state" 1794) N++
 ([T [(af "auto_flip" 1852),(af "cut_in" 1853),(af "delta_base" 1854),(af "delta_shift" 1855),(af "dual" 1856),(af "freedom" 1857),(af "loop" 1858),(af "minimum" 1859),(af "projection" 1860),(af "rounding" 1861),(af "rp0" 1862),(af "rp1" 1863),(af "rp2" 1864),(af "single_cut_in" 1865),(af "single_width" 1866),(af "zp0" 1867),(af "zp1" 1868),(af "zp2" 1869)],b4 4 [E P "__module__" 1805 (af "outlinemill.hint_state" 1794),E P "__firstlineno__" 1809 (aS 861 1808),E P "__init__" 1816 (r 1092),E P "free_dot" 1824 (r 1099),E P "projected" 1833 (r 1106),E P "dual_projected" 1842 (r 1113),E P "row" 1851 (r 1120),E P "__static_attributes__" 1870 (r 1121),E P "__dict__" 1872 (r 1124),E P "__weakref__" 1874 (r 1125),E P "__doc__" 1875 N],qP "GraphicsState" [(.type "object")] [(r 1123),(.type "object")] 1122 [] [none,none,some (af "GraphicsState" 1798),some (af "GraphicsState" 1806),some (.builtin "object.__new__"),some (.bool true)],cZ [(af "__dict__" 1871),(r 1123),(.builtin "function.__dict__"),(.builtin "function.__dict__#set")],cZ [(af "__weakref__" 1873),(r 1123),(.builtin "ExceptionGroup.__weakref__"),N],qT [(r 1123),(r 1123),(r 1123)],G [(.builtin "object.__init_subclass__"),(r 1123)],T [],G [(.builtin "type.__prepare__"),(.type "type")],b4 10 [E P "__module__" 1887 (af "outlinemill.hint_work" 1878),E P "__qualname__" 1889 (af "HintStack" 1888),E P "__firstlineno__" 1891 (aS 898 1890),E P "__init__" 1899 (r 1141),E P "push" 1907 (r 1148),E P "pop" 1914 (r 1155),E P "peek" 1922 (r 1162),E P "depth" 1929 (r 1169),E P "clear" 1936 (r 1176),E P "__static_attributes__" 1939 (r 1177)],T [],l7 [(aS 900 0),(aS 4 0),(r 1140),(aS 904 0),(aS 4 0),(r 1147),(aS 909 0),(aS 4 0),(r 1154),(aS 914 0),(aS 4 0),(r 1161),(aS 919 0),(aS 4 0),(r 1168),(aS 922 0),(aS 4 0),(r 1175)],gw "HintStack" "HintStack" 1882 898 0 0 1131 false 1132 N N N 1885 1886,R [some (r 1133),some (r 3),some (r 1130),none,some (af "outlinemill.hint_work" 1878),none,some (r 0)]]++
 (bN (cU 168 0) 1135 1892 (af "outlinemill.hint_work" 1878) N++
 (bN (cU 168 1) 1142 1900 (af "outlinemill.hint_work" 1878) N++
 (bN (cU 168 2) 1149 1908 (af "outlinemill.hint_work" 1878) N++
 (bN (cU 168 3) 1156 1915 (af "outlinemill.hint_work" 1878) N++
 (bN (cU 168 4) 1163 1923 (af "outlinemill.hint_work" 1878) N++
 (bN (cU 168 5) 1170 1930 (af "outlinemill.hint_work" 1878) N++
 ([T [(af "most" 1937),(af "numbers" 1938)],b4 4 [E P "__module__" 1887 (af "outlinemill.hint_work" 1878),E P "__firstlineno__" 1891 (aS 898 1890),E P "__init__" 1899 (r 1141),E P "push" 1907 (r 1148),E P "pop" 1914 (r 1155),E P "peek" 1922 (r 1162),E P "depth" 1929 (r 1169),E P "clear" 1936 (r 1176),E P "__static_attributes__" 1939 (r 1177),E P "__dict__" 1941 (r 1180),E P "__weakref__" 1943 (r 1181),E P "__doc__" 1944 N],qP "HintStack" [(.type "object")] [(r 1179),(.type "object")] 1178 [] [none,none,some (af "HintStack" 1880),some (af "HintStack" 1888),some (.builtin "object.__new__"),some (.bool true)],cZ [(af "__dict__" 1940),(r 1179),(.builtin "function.__dict__"),(.builtin "function.__dict__#set")],cZ [(af "__weakref__" 1942),(r 1179),(.builtin "ExceptionGroup.__weakref__"),N],qT [(r 1179),(r 1179),(r 1179)],G [(.builtin "object.__init_subclass__"),(r 1179)],T [],G [(.builtin "type.__prepare__"),(.type "type")],b4 9 [E P "__module__" 1954 (af "outlinemill.hint_work" 1878),E P "__qualname__" 1956 (af "HintWork" 1955),E P "__firstlineno__" 1958 (aS 924 1957),E P "__init__" 1976 (r 1199),E P "zone" 1984 (r 1206),E P "cvt_value" 1992 (r 1213),E P "put_cvt" 2001 (r 1220),E P "next_loop" 2009 (r 1227),E P "__static_attributes__" 2018 (r 1228)],T [],l7 [(aS 926 0),(aS 4 0),(r 1198),(aS 936 0),(aS 4 0),(r 1205),(aS 941 0),(aS 4 0),(r 1212),(aS 946 0),(aS 4 0),(r 1219),(aS 950 0),(aS 4 0),(r 1226)],gw "HintWork" "HintWork" 1949 924 0 0 1187 false 1188 N N N 1952 1953,R [some (r 1189),some (r 3),some (r 1186),none,some (af "outlinemill.hint_work" 1878),none,some (r 0)],T [(aS 1 1962),(aS 1 1963)],T [(aS 64 1959),(aS 12 1960),(aS 768 1961),(r 1191)]]++
 (bN (cU 169 0) 1193 1964 (af "outlinemill.hint_work" 1878) (r 1192)++
 (bN (cU 169 1) 1200 1977 (af "outlinemill.hint_work" 1878) N++
 (bN (cU 169 2) 1207 1985 (af "outlinemill.hint_work" 1878) N++
 (bN (cU 169 3) 1214 1993 (af "outlinemill.hint_work" 1878) N++
 (bN (cU 169 4) 1221 2002 (af "outlinemill.hint_work" 1878) N++
 ([T [(af "cvt" 2010),(af "point_size" 2011),(af "ppem" 2012),(af "scale" 2013),(af "stack" 2014),(af "state" 2015),(af "storage" 2016),(af "zones" 2017)],b4 4 [E P "__module__" 1954 (af "outlinemill.hint_work" 1878),E P "__firstlineno__" 1958 (aS 924 1957),E P "__init__" 1976 (r 1199),E P "zone" 1984 (r 1206),E P "cvt_value" 1992 (r 1213),E P "put_cvt" 2001 (r 1220),E P "next_loop" 2009 (r 1227),E P "__static_attributes__" 2018 (r 1228),E P "__dict__" 2020 (r 1231),E P "__weakref__" 2022 (r 1232),E P "__doc__" 2023 N],qP "HintWork" [(.type "object")] [(r 1230),(.type "object")] 1229 [] [none,none,some (af "HintWork" 1947),some (af "HintWork" 1955),some (.builtin "object.__new__"),some (.bool true)],cZ [(af "__dict__" 2019),(r 1230),(.builtin "function.__dict__"),(.builtin "function.__dict__#set")],cZ [(af "__weakref__" 2021),(r 1230),(.builtin "ExceptionGroup.__weakref__"),N],qT [(r 1230),(r 1230),(r 1230)],G [(.builtin "object.__init_subclass__"),(r 1230)],T [],G [(.builtin "type.__prepare__"),(.type "type")],b4 8 [E P "__module__" 2035 (af "outlinemill.hint_zones" 2026),E P "__qualname__" 2037 (af "Zone" 2036),E P "__firstlineno__" 2039 (aS 955 2038),E P "__init__" 2045 (r 1248),E P "count" 2052 (r 1255),E P "check" 2060 (r 1262),E P "put" 2069 (r 1269),E P "__static_attributes__" 2075 (r 1270)],T [],l7 [(aS 957 0),(aS 4 0),(r 1247),(aS 964 0),(aS 4 0),(r 1254),(aS 967 0),(aS 4 0),(r 1261),(aS 972 0),(aS 4 0),(r 1268)],gw "Zone" "Zone" 2030 955 0 0 1238 false 1239 N N N 2033 2034,R [some (r 1240),some (r 3),some (r 1237),none,some (af "outlinemill.hint_zones" 2026),none,some (r 0)],T [],T [(r 1242),N]]++
 (wM (cU 171 0) 1244 2040 (af "outlinemill.hint_zones" 2026) (r 1243)++
 (bN (cU 171 1) 1249 2046 (af "outlinemill.hint_zones" 2026) N++
 (bN (cU 171 2) 1256 2053 (af "outlinemill.hint_zones" 2026) N++
 (bN (cU 171 3) 1263 2061 (af "outlinemill.hint_zones" 2026) N++
 ([T [(af "current" 2070),(af "ends" 2071),(af "on_curve" 2072),(af "original" 2073),(af "touched" 2074)],b4 4 [E P "__module__" 2035 (af "outlinemill.hint_zones" 2026),E P "__firstlineno__" 2039 (aS 955 2038),E P "__init__" 2045 (r 1248),E P "count" 2052 (r 1255),E P "check" 2060 (r 1262),E P "put" 2069 (r 1269),E P "__static_attributes__" 2075 (r 1270),E P "__dict__" 2077 (r 1273),E P "__weakref__" 2079 (r 1274),E P "__doc__" 2080 N],qP "Zone" [(.type "object")] [(r 1272),(.type "object")] 1271 [] [none,none,some (af "Zone" 2028),some (af "Zone" 2036),some (.builtin "object.__new__"),some (.bool true)],cZ [(af "__dict__" 2076),(r 1272),(.builtin "function.__dict__"),(.builtin "function.__dict__#set")],cZ [(af "__weakref__" 2078),(r 1272),(.builtin "ExceptionGroup.__weakref__"),N],qT [(r 1272),(r 1272),(r 1272)],G [(.builtin "object.__init_subclass__"),(r 1272)]]))))))))))))))))))))))))
noncomputable def ajH (P:Params):List Obj:=bN (aA 173) 1277 2085 (af "law_nu0041_01" 2083) N++
 (bN (aA 174) 1284 2096 (af "law_nu0041_01" 2083) N++
 (bN (aA 175) 1291 2105 (af "law_nu0041_01" 2083) N++
 (wM (aA 176) 1298 2113 (af "law_nu0041_01" 2083) N++
 (bN (aA 177) 1303 2119 (af "law_nu0041_01" 2083) N++
 (bN (aA 178) 1310 2128 (af "law_nu0041_01" 2083) N++
 (bN (aA 179) 1317 2138 (af "law_nu0041_01" 2083) N++
 (bN (aA 180) 1324 2146 (af "law_nu0041_01" 2083) N++
 (bN (aA 181) 1331 2155 (af "law_nu0041_01" 2083) N++
 (bN (aA 182) 1338 2165 (af "law_nu0041_01" 2083) N++
 (bN (aA 183) 1345 2178 (af "law_nu0041_01" 2083) N++
 (wM (aA 184) 1352 2192 (af "law_nu0041_01" 2083) N++
 (wM (aA 185) 1357 2198 (af "law_nu0041_01" 2083) N++
 (bN (aA 186) 1362 2204 (af "law_nu0041_01" 2083) N++
 (wM (aA 187) 1369 2216 (af "law_nu0041_01" 2083) N++
 (bN (aA 188) 1374 2222 (af "law_nu0041_01" 2083) N++
 (wM (aA 189) 1381 2238 (af "law_nu0041_01" 2083) N))))))))))))))))
noncomputable def UW (P:Params):List Obj:=ajG P++(ajH P)
noncomputable def D8 (P:Params):Obj:={cls:=.none,data:=.dict #[E P "type.__subclasses__.Exception.0" 214 (aS 31 0),E P "type.__subclasses__.Exception.n" 215 (aS 1 0)] 2}
noncomputable def AO (P:Params) (B main pn:Obj):List Obj:=
 [boot_o_0 P,boot_o_1 P,B,main,boot_o_4 P,boot_o_5 P,boot_o_6 P,boot_o_7 P,boot_o_8 P,boot_o_9 P,boot_o_10 P,
  T [],pn,gw "<module>" "<module>" 182 1 0 0 11 false 12 N N N 185 186,R [some (r 13),some (r 3),some (r 3),none,some (af "__main__" 164),none,some (r 0)]]
noncomputable def A3:BT->Nat->List Obj->BT
 |t,_,[]=>t
 |t,n,o::l=>A3 (t.ins n o) (n+1) l
noncomputable def D0 (w:World) (os:OsState) (n iT:Nat) (l:List Obj):SharedT:=⟨A3 BT.nil 0 l,n,{},#[],{},iT,os⟩
noncomputable def v3 (w:World) (os:OsState):SharedT:=D0 w os 15 187 (AO w.params (boot_o_2 w.params) (b4 9 ((AB w.params (af "__main__" 164)).take 9)) (l7 (zq (Ba.take 0)))++[])
noncomputable def alm:Pos:=⟨0,0,0,0⟩
noncomputable def E9 (w:World) (os:OsState):SharedT:=D0 w os 284 620 (AO w.params (D8 w.params) (b4 41 ((AB w.params (af "outlinemill.hint_machine" 516)).take 41)) (l7 (zq (Ba.take 15)))++(DB w.params))
noncomputable def nI:Pos:=⟨137,0,208,64⟩
noncomputable def E_ (w:World) (os:OsState):SharedT:=D0 w os 684 1233 (AO w.params (D8 w.params) (b4 99 ((AB w.params (af "outlinemill.hint_stack" 1187)).take 99)) (l7 (zq (Ba.take 69)))++(DB w.params++HR w.params))
noncomputable def iM:Pos:=⟨534,0,535,39⟩
noncomputable def Fa (w:World) (os:OsState):SharedT:=D0 w os 1079 1798 (AO w.params (D8 w.params) (b4 160 ((AB w.params (af "outlinemill.hint_state" 1794)).take 160)) (l7 (zq (Ba.take 126)))++(DB w.params++HR w.params++MS w.params))
noncomputable def p6:Pos:=⟨860,0,860,9⟩
noncomputable def v5 (w:World) (os:OsState):SharedT:=D0 w os 1386 2244 (AO w.params (D8 w.params) (b4 181 ((AB w.params (af "law_nu0041_01" 2083)).take 181)) (l7 (zq (Ba.take 147)))++(DB w.params++HR w.params++MS w.params++UW w.params))
noncomputable def Bd:Pos:=⟨1131,0,1153,95⟩
noncomputable def go (w:World) (n:Nat) (s:SharedT) (body:List Stmt) (p:Pos):=PySem.W.Fast.tw10110043849684766642 PySem.W.Fast.tw14364793385576792824 c3 w 11 (some (.ref 6)) 1 n s (piecesOf body CF nR p [topFrame n7])
theorem akV (w:World):(λos=>go w 2534 (v3 w os) (c3.main.body.take 36) alm)=λos=>some (.next,E9 w os,nR,nI):=by kernel_rfl
theorem akW (w:World):(λos=>go w 2069 (E9 w os) ((c3.main.body.drop 36).take 64) nI)=λos=>some (.next,E_ w os,nR,iM):=by kernel_rfl
theorem akX (w:World):(λos=>go w 1879 (E_ w os) ((c3.main.body.drop 100).take 66) iM)=λos=>some (.next,Fa w os,nR,p6):=by kernel_rfl
theorem akY (w:World):(λos=>go w 1992 (Fa w os) ((c3.main.body.drop 166).take 24) p6)=λos=>some (.next,v5 w os,nR,Bd):=by kernel_rfl
noncomputable def wL (P:Params):List Obj:=AO P (D8 P) (b4 181 ((AB P (af "law_nu0041_01" 2083)).take 181)) (l7 (zq (Ba.take 147)))++(DB P++HR P++MS P++UW P)
noncomputable def gR (P:Params):Heap:=absHeap (A3 BT.nil 0 (wL P)) 1386 {}
noncomputable def r8:Program:=view c3 [189]
noncomputable def xX:List Str:=c3.boundNames.filter λn=>n != "law"&&!startupNames.contains n
noncomputable def Fd (s:Shared):Bool:=xlAt r8 [] s&&recOk [] s
theorem ak6 (w:World):(λos=>PySem.W.Fast.tw15667345088766844465 PySem.W.Fast.tw14364793385576792824 c3 w 11 (some (.ref 6)) 12 ⟨boot_heap w.params,#[],boot_drawn,boot_toks,os⟩ (topStub c3))=
  λos=>some ((v3 w os).abs,⟨PySem.W.Fast.tw11892475500146522536 PySem.W.Fast.tw14364793385576792824 nR,nR,n7,[topFrame n7]⟩):=by kernel_rfl
theorem aaf (w:World):(λos=>PySem.W.Fast.tw14374325043358763698 PySem.W.Fast.tw14364793385576792824 c3 w 11 (some (.ref 6)) 1 1 (v3 w os).abs (blockOf c3.main.body CF nR n7 [topFrame n7]))=
  λos=>some (.next,(v3 w os).abs,nR,n7):=by kernel_rfl
theorem adl (w:World):(λos=>PySem.W.Fast.tw14082659384304107361 PySem.W.Fast.tw14364793385576792824 c3 w 11 (some (.ref 6)) 2 (v5 w os).abs ⟨doneF .next,nR,Bd,[topFrame n7]⟩)=
  λos=>some (v5 w os).abs:=by kernel_rfl
theorem al8 (w:World):((boot_heap w.params).isNs mainGlobals&&(#[]:Array GenState).size==0,(boot_heap w.params).objs.size,(boot_heap w.params).nsMap mainGlobals "__annotations__")=(true,11,some (.ref 6)):=by kernel_rfl
theorem aj8:opening c3=plainProg c3.main.scope.names:=by kernel_rfl
theorem adk (s:Shared):fenceModules? c3 s=some s:=by kernel_rfl
theorem acf:c3.main.body.drop 190=[]:=by kernel_rfl
theorem ahu (w:World):(λos=>PySem.W.Fast.tw4187177175401517315 r8 xX (importedModules c3.main.body) Fd true ⟨gR w.params,#[],{},2244,os⟩)=λU=>openGood r8 xX:=by kernel_rfl
theorem ahv (w:World):(λos=>(staticsOk (importedModules c3.main.body) (boot_heap w.params) (gR w.params)&&namesBound c3 (gR w.params)&&gensDone ⟨gR w.params,#[],{},2244,os⟩&&laidKept (boot_heap w.params) (gR w.params)))=λU=>true:=by kernel_rfl
open PySem.W.Fast in
theorem Gv {w:World} {n:Nat} {s bW:World->OsState->SharedT} {b:List Stmt} {p A_:Pos}
  (h:(λos=>go w n (s w os) b p)=λos=>some (.next,bW w os,nR,A_)) (os:OsState):
  segRun treeTable c3 w 11 (some (.ref 6)) 1 n (s w os).abs (piecesOf b CF nR p [topFrame n7])=some (.next,(bW w os).abs,nR,A_):=by
 refine segRun_of ?_
 rw[te10110043849684766642,te14364793385576792824]
 exact eZ h os
theorem aau:c3.main.body=c3.main.body.take 36++((c3.main.body.drop 36).take 64++((c3.main.body.drop 100).take 66++((c3.main.body.drop 166).take 24++[]))):=by
 have gJ:(c3.main.body.drop 166).take 24++[]=c3.main.body.drop 166:=by
  rw[vR]
  conv=>rhs;rw[<-EU 24 (c3.main.body.drop 166),BO,acf,vR]
 rw[gJ]
 have bK:(c3.main.body.drop 100).take 66++c3.main.body.drop 166=c3.main.body.drop 100:=by
  conv=>rhs;rw[<-EU 66 (c3.main.body.drop 100),BO]
 rw[bK]
 have bk:(c3.main.body.drop 36).take 64++c3.main.body.drop 100=c3.main.body.drop 36:=by
  conv=>rhs;rw[<-EU 64 (c3.main.body.drop 36),BO]
 rw[bk,EU]
open PySem.W.Fast in
theorem alQ (w:World) (os:OsState):topRun treeTable c3 w 11 (some (.ref 6)) (12+(1+(2534+(2069+(1879+(1992+2)))))) ⟨boot_heap w.params,#[],boot_drawn,boot_toks,os⟩ (topStub c3)=some (v5 w os).abs:=by
 have cA:topGo treeTable c3 w 11 (some (.ref 6)) 12 ⟨boot_heap w.params,#[],boot_drawn,boot_toks,os⟩ (topStub c3)=some ((v3 w os).abs,⟨denote treeTable nR,nR,n7,[topFrame n7]⟩):=by
  rw[te15667345088766844465,te11892475500146522536,te14364793385576792824]
  exact eZ (ak6 w) os
 have aP:segRun treeTable c3 w 11 (some (.ref 6)) 1 1 (v3 w os).abs (blockOf c3.main.body CF nR n7 [topFrame n7])=some (.next,(v3 w os).abs,nR,n7):=by
  rw[te14374325043358763698,te14364793385576792824]
  exact eZ (aaf w) os
 have bD:topRun treeTable c3 w 11 (some (.ref 6)) 2 (v5 w os).abs ⟨doneF .next,nR,Bd,[topFrame n7]⟩=some (v5 w os).abs:=by
  rw[te14082659384304107361,te14364793385576792824]
  exact eZ (adl w) os
 refine go_top cA (piece_block aP ?_)
 rw[aau]
 exact piece_app (Gv (s:=v3) (bW:=E9) (akV w) os) (piece_app (Gv (s:=E9) (bW:=E_) (akW w) os) (piece_app (Gv (s:=E_) (bW:=Fa) (akX w) os) (piece_app (Gv (s:=Fa) (bW:=v5) (akY w) os) (piece_nil bD))))
theorem X3 (w:World) (os:OsState):(v5 w os).abs=⟨gR w.params,#[],{},2244,os⟩:=by kernel_rfl
open PySem.W.Fast in
theorem agV:LeftO c3 r8 xX Fd (λs=>s.heap) (λw=>gR w.params) 9000:=by
 refine LeftO.of_pieces (boot_open (N:=9000) aj8 (by decide) adk) al8 (λw os=>(alQ w os).trans (cJ some (X3 w os))) (by decide) (λw=>?_)
 funext os
 refine Prod.ext (eZ (ahv w) os) (Prod.ext ?_ rfl)
 show openSeen r8 xX (importedModules c3.main.body) Fd true ⟨gR w.params,#[],{},2244,os⟩=openGood r8 xX
 rw[te4187177175401517315]
 exact eZ (ahu w) os
def Ad (t:BT) (n:Nat):Prop:=∀i,(t.get i).isSome=decide (i<n)
open BT in
theorem adK {l r:BT} (h:Ad (.node v l r) n):Ad l (n/2)/\Ad r ((n -1)/2)/\0<n:=by
 refine⟨λi=>?_,λi=>?_,?_⟩
 .have:=h (2*i+1)
  rw[get_node,bX (by omega),bT (by omega),show(2*i+1)/2=i by omega]at this
  rw[this];congr 1;exact propext ⟨λU=>by omega,λU=>by omega⟩
 .have:=h (2*i+2)
  rw[get_node,bX (by omega),bX (by omega),show(2*i+2)/2 -1=i by omega]at this
  rw[this];congr 1;exact propext ⟨λU=>by omega,λU=>by omega⟩
 .have:=h 0
  rw[get_node,bT rfl]at this
  exact kJ this.symm
open BT in
theorem K_:∀(t:BT) n o,Ad t n->∀i,(t.ins n o).get i=if i=n then some o else t.get i
 | .nil,n,o,h,i=>by
  have bG:n=0:=by
   have:=h 0
   induction n with
   |zero=>rfl
   |succ n=>simp[BT.get]at this
  subst bG
  show(BT.node o .nil .nil).get i=_
  rw[get_node]
  by_cases q:i=0
  .rw[bT q,bT q]
  .rw[bX q,bX q];split<;>rfl
 | .node v l r,n,o,h,i=>by
  obtain⟨aI,aQ,bG⟩:=adK h
  rw[ins_node,bX (by omega)]
  by_cases p:n%2=1
  .rw[bT p,get_node,get_node,K_ l (n/2) o aI]
   by_cases q:i=0
   .subst q;rw[bT rfl,bX (by omega),bT rfl]
   .rw[bX q,bX q]
    by_cases z:i%2=1
    .rw[bT z,bT z]
     by_cases y:i=n
     .subst y;rw[bT rfl,bT rfl]
     .rw[bX (by omega),bX y]
    .rw[bX z,bX z,bX (by omega)]
  .rw[bX p,get_node,get_node,show n/2 -1=(n -1)/2 by omega,K_ r ((n -1)/2) o aQ]
   by_cases q:i=0
   .subst q;rw[bT rfl,bX (by omega),bT rfl]
   .rw[bX q,bX q]
    by_cases z:i%2=1
    .rw[bT z,bT z,bX (by omega)]
    .rw[bX z,bX z]
     by_cases y:i=n
     .subst y;rw[bT (by omega),bT rfl]
     .rw[bX (by omega),bX y]
theorem RY:∀l (t:BT) n,Ad t n->∀i,(A3 t n l).get i=if i<n then t.get i else l[i -n]?
 |[],t,n,h,i=>by
  show t.get i=_
  by_cases q:i<n
  .rw[bT q]
  .rw[bX q]
   have:=h i
   rw[qc q]at this
   simpa using this
 |o::l,t,n,h,i=>by
  have g:=K_ t n o h
  have f:Ad (t.ins n o) (n+1):=λi=>by
   rw[g i]
   by_cases q:i=n
   .rw[bT q,iU (by omega)];rfl
   .rw[bX q,h i];congr 1;exact propext ⟨λU=>by omega,λU=>by omega⟩
  show(A3 (t.ins n o) (n+1) l).get i=_
  rw[RY l _ _ f i,g i]
  by_cases q:i<n
  .rw[bT (by omega),bX (by omega),bT q]
  .rw[bX q]
   by_cases y:i=n
   .subst y;simp
   .rw[bX (by omega),show i -n=(i -(n+1))+1 by omega,List.getElem?_cons_succ]
theorem Ld (h:(wL P)[a]?=some o) (aY:a<1386) (bD:o.isFreed=false):(gR P).get? a=some o:=by
 have:(A3 BT.nil 0 (wL P)).get a=some o:=by
  rw[RY _ _ _ (λi=>by simp[BT.get]) a,bX (rD a)];exact h
 refine(abs_get aY this).trans ?_
 obtain⟨c,d,abY,mz⟩:=o
 rcases abY with _|_<;>first|rfl|cases bD
noncomputable def DE:List Addr->Nat->List Obj->Frag
 |_,_,[]=>[]
 |[],_,_=>[]
 |a::cS,n,o::l=>match Nat.beq a n with
  |true=>(a,o)::DE cS (n+1) l
  |false=>DE (a::cS) (n+1) l
set_option tactic.hygienic true in
theorem MZ:∀l cS n {a:Addr} {o:Obj},(a,o)∈DE cS n l->n<=a/\l[a -n]?=some o
 |[],cS,n,a,o,h=>by rcases cS with _|_<;>cases h
 |x::l,[],n,a,o,h=>by cases h
 |x::l,b::cS,n,a,o,h=>by
  unfold DE at h
  split at h
  .rename_i q
   rcases List.mem_cons.mp h with e|h
   .cases e
    have:b=n:=zZ q
    subst this;simp
   .obtain⟨az,aE⟩:=MZ l cS (n+1) h
    obtain⟨k,rfl⟩:=OI az
    refine⟨by omega,?_⟩
    have bk:n+1+k -n=k+1:=by omega
    have bK:n+1+k -(n+1)=k:=by omega
    rw[bK]at aE
    rw[bk,List.getElem?_cons_succ];exact aE
  .obtain⟨az,aE⟩:=MZ l (b::cS) (n+1) h
   obtain⟨k,rfl⟩:=OI az
   refine⟨by omega,?_⟩
   have bk:n+1+k -n=k+1:=by omega
   have bK:n+1+k -(n+1)=k:=by omega
   rw[bK]at aE
   rw[bk,List.getElem?_cons_succ];exact aE
theorem iu {P:Prop} (h:∀aH:Prop,(P->aH)->aH):P:=h P id
theorem fK {b9:Type} {a:b9} {P:Prop} (h:none=some a):P:=by cases h
theorem lP {P:Prop} (h:false=true):P:=by cases h
theorem anZ {P:Prop} (h:true=false):P:=by cases h
theorem oE {b9:Type} {o:Option b9} {a:b9} {P:Prop} (h:o=none) (bH:o=some a):P:=fK (h.symm.trans bH)
end Mine
local macro_rules |`(tactic|nomatch $h)=>`(tactic|first|exact Mine.fK $h|exact Mine.lP $h|cases$h:term)
namespace Mine
noncomputable abbrev ay:=List Nat
set_option genCtorIdx true in
inductive I where
 |none|bool (b:Bool)|int (i:Int)|str (s:Str)|bytes (l:List Nat)|type (n:String)|bi (id:String)|at (a:Addr)|ref (r:ay)|tup (aa:List I)|eo (lo aj:Int)|undef
noncomputable abbrev dG:=List Nat->Option Addr
set_option genCtorIdx true in
inductive cw where
 |list (aa:List I)|jn (l:List (Str×I))|cB (l:List (Int×I))|inst (aH:Addr) (d:ay)|attrs (l:List (Str×I))|k4 (o:Obj)
noncomputable def xG:List Value->Option (List Int)
 |[]=>some []
 | .int i _::l=>(xG l).map (i::·)
 |_=>none
noncomputable def sJ (o:Obj):Option (List Int):=match o.data with
 | .seq eu _=>if o.cls==.type "list" then xG eu.toList else none
 |_=>none
noncomputable abbrev bl:=ay->Option cw
structure bL where
 h:bl
 k:Nat
noncomputable def bl.set (C:bl) (r:ay) (o:cw):bl:=λb=>if b=r then some o else C b
noncomputable def dG.set (φ:dG) (r:ay) (a:Addr):dG:=λb=>if b=r then some a else φ b
def d_ (p:ay) (k:Nat) (r:ay):Prop:=∃t j,k<=j/\r=t++j::p
theorem d_.mono {p:ay} {k j0:Nat} {r:ay} (h:d_ p j0 r) (l:k<=j0):d_ p k r:=let⟨t,j,a,b⟩:=h;⟨t,j,d5 l a,b⟩
theorem d_.self (p:ay) (k:Nat):d_ p k (k::p):=⟨[],k,fu _,rfl⟩
theorem d_.sub {p:ay} {k j:Nat} {r:ay} (h:d_ (k::p) j r):d_ p k r:=let⟨t,i,_,b⟩:=h;⟨t++[i],k,fu _,by rw[b];simp⟩
theorem d_.apart {p:ay} {k j:Nat} {r:ay} (h:d_ (k::p) j r) (bH:d_ p (k+1) r):False:=by
 obtain⟨t,i,_,b⟩:=h
 obtain⟨f9,qn,l,fM⟩:=bH
 rw[b]at fM
 have e:=cJ List.reverse fM
 simp at e
 omega
theorem d_.UL {p:ay} {k:Nat} (h:d_ p (k+1) (k::p)):False:=by
 obtain⟨f9,qn,l,fM⟩:=h
 have e:=cJ List.reverse fM
 simp at e
 omega
inductive dS {b9 ef:Type} (R:b9->ef->Prop):List b9->List ef->Prop
 |nil:dS R [] []
 |cons {a b l m}:R a b->dS R l m->dS R (a::l) (b::m)
namespace dS
variable {R af:b9->ef->Prop}
theorem mono (h:dS R l m) (i:∀a b,R a b->af a b):dS af l m:=by induction h with|nil=>exact .nil|cons a _ ih=>exact .cons (i _ _ a) ih
theorem len (h:dS R l m):l.length=m.length:=by induction h with|nil=>rfl|cons _ _ ih=>simp[ih]
theorem append (h:dS R l m) (bH:dS R fX Ht):dS R (l++fX) (m++Ht):=by induction h with|nil=>exact bH|cons a _ ih=>exact .cons a ih
theorem get (h:dS R l m):∀{i:Nat} {b:ef},m[i]?=some b->∃a,l[i]?=some a/\R a b:=by
 induction h with
 |nil=>intro i b e;simp at e
 |cons a _ ih=>intro i b e;induction i with
  |zero=>simp at e ⊢;subst e;exact a
  |succ i=>simpa using ih (by simpa using e)
theorem of_get:∀{m:List ef},l.length=m.length->(∀(i:Nat) a b,l[i]?=some a->m[i]?=some b->R a b)->dS R l m:=by
 induction l with
 |nil=>intro m e h;induction m with|nil=>exact .nil|cons _ _=>nomatch e
 |cons a l ih=>intro m e h;induction m with
  |nil=>nomatch e
  |cons b m=>exact .cons (h 0 a b (by simp) (by simp)) (ih (by simpa using e) λi x y p q=>h (i+1) x y (by simpa using p) (by simpa using q))
theorem set (h:dS R l m) (r:R a b):∀i,dS R (l.set i a) (m.set i b):=by
 induction h with
 |nil=>intro i;exact .nil
 |cons x y ih=>intro i;induction i with|zero=>exact .cons r y|succ i=>exact .cons x (ih i)
theorem drop (h:dS R l m):∀i,dS R (l.drop i) (m.drop i):=by
 induction h with
 |nil=>intro i;simp;exact .nil
 |cons x y ih=>intro i;induction i with|zero=>exact .cons x y|succ i=>exact ih i
theorem take (h:dS R l m):∀i,dS R (l.take i) (m.take i):=by
 induction h with
 |nil=>intro i;simp;exact .nil
 |cons x y ih=>intro i;induction i with|zero=>exact .nil|succ i=>exact .cons x (ih i)
theorem rev (h:dS R l m):dS R l.reverse m.reverse:=by
 induction h with
 |nil=>exact .nil
 |cons x _ ih=>simp only[List.reverse_cons];exact ih.append (.cons x .nil)
theorem dropLast (h:dS R l m):dS R l.dropLast m.dropLast:=by
 rw[List.dropLast_eq_take,List.dropLast_eq_take,h.len];exact h.take _
end dS
noncomputable def f7 (o:Obj):Bool:=match o.data with
 | .seq ..=>o.cls==.type "tuple"
 | .fields ..=>o.cls==.type "range"
 |_=>false
theorem Sy {h:Heap} {a:Addr} (n:h.Ns a m) (e:h.get? a=some o):f7 o=false:=by
 obtain⟨gM,ao,jo,ff,d,_⟩:=n
 rw[e]at ff;nomatch ff
 unfold f7;rw[d]
noncomputable abbrev xF (eu:Array Value) (n:Nat):Obj:={cls:=.type "tuple",data:=.seq eu n}
inductive aZ (φ:dG) (h:Heap):Value->I->Prop
 |none:aZ φ h .none .none
 |bool (b):aZ φ h (.bool b) (.bool b)
 |int (i t):aZ φ h (.int i t) (.int i)
 |str (x t):aZ φ h (.str x t) (.str x)
 |bytes (b:Array UInt8) (t):aZ φ h (.bytes b t) (.bytes (b.toList.map UInt8.toNat))
 |type (n):aZ φ h (.type n) (.type n)
 |bi (n):aZ φ h (.builtin n) (.bi n)
 |at (a):aZ φ h (.ref a) (.at a)
 |ref {r a}:φ r=some a->aZ φ h (.ref a) (.ref r)
 |tup {a eu n aa}:h.get? a=some (xF eu n)->eu.toList.length=aa.length->(∀(i:Nat) aO v,eu.toList[i]?=some aO->aa[i]?=some v->aZ φ h aO v)->aZ φ h (.ref a) (.tup aa)
 |eo {r a b t u v}:IsRange h r a b 1 t u v->aZ φ h (.ref r) (.eo a b)
 |undef (v):aZ φ h v .undef
noncomputable abbrev fG (φ) (h):=dS (aZ φ h)
theorem aZ.mono {φ cg:dG} {h bH:Heap} (iZ:∀r a,φ r=some a->cg r=some a) (dj:∀b o,h.get? b=some o->f7 o=true->bH.get? b=some o) (x:aZ φ h aO v):aZ cg bH aO v:=by
 induction x with
 |none=>exact .none
 |bool b=>exact .bool b
 |int i t=>exact .int i t
 |str x t=>exact .str x t
 |bytes b t=>exact .bytes b t
 |type n=>exact .type n
 |bi n=>exact .bi n
 |«at» a=>exact .at a
 |ref e=>exact .ref (iZ _ _ e)
 |tup e l _ ih=>exact .tup (dj _ _ e rfl) l λi aO v a b=>ih i aO v a b
 |eo e=>exact .eo (dj _ _ e rfl)
 |undef v=>exact .undef v
section inv
noncomputable def XT (φ:dG) (h:Heap) (aO:Value):I->Prop
 | .none=>aO=.none
 | .bool b=>aO=.bool b
 | .int i=>∃t,aO=.int i t
 | .str i=>∃t,aO=.str i t
 | .bytes l=>∃b t,aO=.bytes b t/\b.toList.map UInt8.toNat=l
 | .type n=>aO=.type n
 | .bi n=>aO=.builtin n
 | .at a=>aO=.ref a
 | .ref r=>∃a,aO=.ref a/\φ r=some a
 | .tup aa=>∃a eu n,aO=.ref a/\h.get? a=some (xF eu n)/\fG φ h eu.toList aa
 | .eo a b=>∃r t u v,aO=.ref r/\IsRange h r a b 1 t u v
 | .undef=>True
theorem aZ.m {v:I} (x:aZ φ h aO v):XT φ h aO v:=by
 induction x with
 |none=>exact rfl
 |bool b=>exact rfl
 |int i t=>exact⟨t,rfl⟩
 |str i t=>exact⟨t,rfl⟩
 |bytes b t=>exact⟨b,t,rfl,rfl⟩
 |type n=>exact rfl
 |bi n=>exact rfl
 |«at» a=>exact rfl
 |ref e=>exact⟨_,rfl,e⟩
 |tup e l f=>exact⟨_,_,_,rfl,e,.of_get l f⟩
 |eo e=>exact⟨_,_,_,_,rfl,e⟩
 |undef v=>exact trivial
theorem aZ.int_inv {i:Int} (x:aZ φ h aO (.int i)):∃t,aO=.int i t:=x.m
theorem aZ.bool_inv {i:Bool} (x:aZ φ h aO (.bool i)):aO=.bool i:=x.m
theorem aZ.none_inv (x:aZ φ h aO .none):aO=.none:=x.m
theorem aZ.str_inv {i:Str} (x:aZ φ h aO (.str i)):∃t,aO=.str i t:=x.m
theorem aZ.wu {l:List Nat} (x:aZ φ h aO (.bytes l)):∃b t,aO=.bytes b t/\b.toList.map UInt8.toNat=l:=x.m
theorem aZ.WK {n} (x:aZ φ h aO (.type n)):aO=.type n:=x.m
theorem aZ.PV {n} (x:aZ φ h aO (.bi n)):aO=.builtin n:=x.m
theorem aZ.PC {n} (x:aZ φ h aO (.at n)):aO=.ref n:=x.m
theorem aZ.DN {r} (x:aZ φ h aO (.ref r)):∃a,aO=.ref a/\φ r=some a:=x.m
theorem aZ.Em {aa} (x:aZ φ h aO (.tup aa)):∃a eu n,aO=.ref a/\h.get? a=some (xF eu n)/\fG φ h eu.toList aa:=x.m
theorem aZ.VM {a b} (x:aZ φ h aO (.eo a b)):∃r t u v,aO=.ref r/\IsRange h r a b 1 t u v:=x.m
section
variable {P:Value->Prop}
@[elab_as_elim] theorem aZ.j9 (x:aZ φ h aO (.int i)) (k:∀t,P (.int i t)):P aO:=x.int_inv.elim λt e=>e▸k t
@[elab_as_elim] theorem aZ.Ir (x:aZ φ h aO (.str i)) (k:∀t,P (.str i t)):P aO:=x.str_inv.elim λt e=>e▸k t
@[elab_as_elim] theorem aZ.yi (x:aZ φ h aO (.bool i)) (k:P (.bool i)):P aO:=x.bool_inv▸k
@[elab_as_elim] theorem aZ.fK (x:aZ φ h aO .none) (k:P .none):P aO:=x.none_inv▸k
@[elab_as_elim] theorem aZ.P8 (x:aZ φ h aO (.bytes l)) (k:∀b t,b.toList.map UInt8.toNat=l->P (.bytes b t)):P aO:=x.wu.elim λb p=>p.elim λt e=>e.1▸k b t e.2
@[elab_as_elim] theorem aZ.Ni {r:ay} (x:aZ φ h aO (.ref r)) (k:∀a,φ r=some a->P (.ref a)):P aO:=x.DN.elim λa e=>e.1▸k a e.2
@[elab_as_elim] theorem aZ.En (x:aZ φ h aO (.tup aa)) (k:∀a eu n,h.get? a=some (xF eu n)->fG φ h eu.toList aa->P (.ref a)):P aO:=
 x.Em.elim λa p=>p.elim λeu p=>p.elim λn e=>e.1▸k a eu n e.2.1 e.2.2
end
theorem aZ.Oh {a eu n aa} (e:h.get? a=some (xF eu n)) (l:fG φ h eu.toList aa):aZ φ h (.ref a) (.tup aa):=.tup e l.len λi aO v p q=>by
 obtain⟨x,bk,bK⟩:=l.get q
 rw[p]at bk;nomatch bk;exact bK
end inv
def i_ {K:Type} (φ:dG) (h:Heap) (p:K×Value) (q:K×I):Prop:=p.1=q.1/\aZ φ h p.2 q.2
def B8 (φ:dG) (h:Heap) (e:DictEntry) (q:Str×I):Prop:=(∃t,e.key=.str q.1 t)/\aZ φ h e.val q.2
noncomputable def nk (w:World) (φ:dG) (h:Heap) (a:Addr):cw->Prop
 | .list aa=>∃items n,IsL h a items n/\fG φ h items.toList aa
 | .jn l=>∃bO,h.DictOf (strKind c3 w) a bO/\dS (i_ φ h) bO l
 | .cB l=>∃bO,h.DictOf (intKind c3 w) a bO/\dS (i_ φ h) bO l
 | .inst aH d=>∃kY,φ d=some kY/\h.get? a=some ⟨.ref aH,some kY,.plain,#[]⟩
 | .attrs l=>∃ao n,h.get? a=some (dictOf ao n)/\dS (B8 φ h) ao l/\ao.length<=999
 | .k4 o=>h.get? a=some o
theorem nk.mono {w:World} {φ cg:dG} {a:Addr} (iZ:∀r a,φ r=some a->cg r=some a) (dj:∀b o,h.get? b=some o->f7 o=true->bH.get? b=some o)
  (aY:∀o,h.get? a=some o->bH.get? a=some o) {o:cw} (z:nk w φ h a o):nk w cg bH a o:=by
 have aa:∀{K:Type} {bO:List (K×Value)} {l:List (K×I)},dS (i_ φ h) bO l->dS (i_ cg bH) bO l:=λx=>x.mono λU U y=>⟨y.1,y.2.mono iZ dj⟩
 induction o with
 |list _=>exact z.elim λitems z=>z.elim λn z=>⟨items,n,aY _ z.1,z.2.mono λU U y=>y.mono iZ dj⟩
 |jn _=>exact z.elim λbO z=>⟨bO,z.1.at aY,aa z.2⟩
 |cB _=>exact z.elim λbO z=>⟨bO,z.1.at aY,aa z.2⟩
 |inst _ _=>exact z.elim λkY z=>⟨kY,iZ _ _ z.1,aY _ z.2⟩
 |attrs _=>exact z.elim λao z=>z.elim λn z=>⟨ao,n,aY _ z.1,z.2.1.mono λU U y=>⟨y.1,y.2.mono iZ dj⟩,z.2.2⟩
 |k4 _=>exact aY _ z
noncomputable abbrev aL:=List (Str×I)
noncomputable def aL.put:aL->Str->I->aL
 |[],_,_=>[]
 |(y,u)::J,x,v=>if y=x then(y,v)::J else(y,u)::aL.put J x v
theorem aL.TR:∀J y,(aL.put J x v).lookup y=if y=x then(J.lookup y).map (λU=>v)else J.lookup y
 |[],y=>by simp[aL.put]
 |(z,u)::J,y=>by
  unfold aL.put
  by_cases h:z=x
  .subst h
   simp only[jW,List.lookup_cons]
   by_cases q:y=z
   .subst q;simp
   .have:(y==z)=false:=by simpa using q
    rw[this];simp[q]
  .rw[bX h]
   simp only[List.lookup_cons]
   by_cases q:y=z
   .subst q;simp[h]
   .have:(y==z)=false:=by simpa using q
    rw[this];exact aL.TR J y
noncomputable def sR (o:Obj):Bool:=match o.cls with| .type n=>n=="list"|_=>false
structure dU where
 w:World
 A:Around
 env:Env
 jy:Heap
 kc:Str->Option Value
 dK:Str->Option Value
 eX:Shared
 /--an1 addresses apH an1 frame may write -/
 fr:List Addr
 p:ay
 lvl:Nat
def x9 (A:Around) (k:Nat):Prop:=A.handled=none/\A.depth+k<recursionLimit/\A.units+8*k+80<cLine
structure dU.Ok (D:dU):Prop where
 kind:D.env.scope.kind=.function
 globals:D.env.globals=mainGlobals
 builtins:D.env.builtins=builtinsNs
 room:x9 D.A D.lvl
 g:D.jy.Ns mainGlobals D.kc
 b:D.jy.Ns builtinsNs D.dK
 bv:∀x:Str,x≠"__name__"->D.dK x=bootBuiltins x
 nolimit:D.jy.NoLimit
 base:∀b o,(gR D.w.params).get? b=some o->sR o=false->D.jy.get? b=some o
 vf:D.env.locals∈D.fr
 Gp:∀a,a∈D.fr->D.jy.get? a=none
 Al:∀x a,D.env.cells.lookup x=some a->a∈D.fr\/∃o,D.jy.get? a=some o
 yp:∀x a,D.env.cells.lookup x=some a->a≠D.env.locals
 FI:∀x y a,D.env.cells.lookup x=some a->D.env.cells.lookup y=some a->x=y
 cls:∀x,D.env.kindOf x=some .cell\/D.env.kindOf x=some .free->∃a,D.env.cells.lookup x=some a
noncomputable def dU.at (D:dU) (p:ay):dU:={D with p:=p}
theorem dU.Ok.at {D:dU} (ok:D.Ok) (p:ay):(D.at p).Ok:=⟨ok.kind,ok.globals,ok.builtins,ok.room,ok.g,ok.b,ok.bv,ok.nolimit,ok.base,ok.vf,ok.Gp,ok.Al,ok.yp,ok.FI,ok.cls⟩
def O5 (D:dU) (aO:Value) (v:I):Prop:=∀φ h,(∀b o,D.jy.get? b=some o->h.get? b=some o)->aZ φ h aO v
def E5 (D:dU) (x:Str) (v:I):Prop:=∃aO,(D.kc x=some aO\/(D.kc x=none/\x≠"__name__"/\bootBuiltins x=some aO))/\O5 D aO v
def qe (h:Heap) (a:Addr):Prop:=∃o,h.get? a=some o/\f7 o=false
def Cf (E:Env) (φ:dG) (J:aL) (h:Heap):Prop:=∃m,h.Ns E.locals m/\∀x v,J.lookup x=some v->v≠.undef->E.kindOf x=some .local->∃aO,m x=some aO/\aZ φ h aO v
def z_ (E:Env) (φ:dG) (J:aL) (h:Heap) (x:Str) (a:Addr):Prop:=∃iD,h.IsCell a iD/\∀v,J.lookup x=some v->v≠.undef->E.kindOf x≠some .local->∃aO,iD=some aO/\aZ φ h aO v
section
variable {h bH:Heap} {E:Env}
theorem qe.mono (x:qe h a) (k:∀o,h.get? a=some o->bH.get? a=some o):qe bH a:=x.elim λo x=>⟨o,k o x.1,x.2⟩
theorem qe.not (x:qe h a) {o:Obj} {P:Prop} (e:h.get? a=some o) (i:f7 o=true):P:=x.elim λgM x=>lP (x.2.symm.trans (iH (e.symm.trans x.1)▸i))
theorem qe.none (x:qe h a) {P:Prop} (e:h.get? a=none):P:=x.elim λgM x=>oE e x.1
theorem Ns.at' (x:h.Ns a m) (k:∀o,h.get? a=some o->bH.get? a=some o):bH.Ns a m:=x.elim λo x=>x.elim λao x=>x.elim λjo x=>⟨o,ao,jo,k o x.1,x.2⟩
theorem Ns.live {m:Str->Option Value} (x:h.Ns a m):qe h a:=x.elim λo y=>y.elim λU y=>y.elim λU y=>⟨o,y.1,Sy x y.1⟩
theorem Cf.mono (x:Cf E φ J h) (iZ:∀r a,φ r=some a->cg r=some a) (k:∀o,h.get? E.locals=some o->bH.get? E.locals=some o) (im:∀b o,h.get? b=some o->f7 o=true->bH.get? b=some o) (l:∀x v,cz.lookup x=some v->v≠.undef->E.kindOf x=some .local->J.lookup x=some v):Cf E cg cz bH:=
 x.elim λm x=>⟨m,Ns.at' x.1 k,λy v a b c=>(x.2 y v (l y v a b c) b c).elim λaO p=>⟨aO,p.1,p.2.mono iZ im⟩⟩
theorem z_.mono {y:Str} (x:z_ E φ J h y a) (iZ:∀r a,φ r=some a->cg r=some a) (k:∀o,h.get? a=some o->bH.get? a=some o) (im:∀b o,h.get? b=some o->f7 o=true->bH.get? b=some o) (l:∀v,cz.lookup y=some v->v≠.undef->E.kindOf y≠some .local->J.lookup y=some v):z_ E cg cz bH y a:=
 x.elim λiD x=>⟨iD,x.1.elim λo z=>⟨o,k o z.1,z.2⟩,λv a b c=>(x.2 v (l v a b c) b c).elim λaO p=>⟨aO,p.1,p.2.mono iZ im⟩⟩
end
structure bz (D:dU) (φ:dG) (J:aL) (C:bL) (s:Shared):Prop where
 keep:∀b o,D.jy.get? b=some o->s.heap.get? b=some o
 loc:Cf D.env φ J s.heap
 l9:∀x a,D.env.cells.lookup x=some a->z_ D.env φ J s.heap x a
 ny:∀a,a∈D.fr->qe s.heap a
 own:∀r a,φ r=some a->a∉D.fr/\D.jy.get? a=none/\qe s.heap a
 inj:∀r bV a,φ r=some a->φ bV=some a->r=bV
 oV:∃cS:List Addr,∀r a,φ r=some a->a∈cS
 fresh:∀r,d_ D.p C.k r->φ r=none
 obs:∀r o,C.h r=some o->∃a,φ r=some a/\nk D.w φ s.heap a o
 gens:s.gens=D.eX.gens
 drawn:s.drawn=D.eX.drawn
 os:s.os=D.eX.os
structure eV (D:dU) (φ:dG) (C:bL) (s:Shared) (cg:dG) (aT:bL) (bW:Shared):Prop where
 map:∀r a,φ r=some a->cg r=some a
 keep:∀b o,s.heap.get? b=some o->(∀r,φ r≠some b)->b∉D.fr->bW.heap.get? b=some o
 new:∀r b,cg r=some b->φ r=some b\/(s.heap.get? b=none/\d_ D.p C.k r)
 au:C.k<=aT.k
theorem eV.refl:eV D φ C s φ C s:=⟨λU U e=>e,λU U e U U=>e,λU U e=>.inl e,fu _⟩
section
variable {φ cg Xf:dG}
theorem bz.BJ (h:bz D φ J C s) {b:Addr} {o:Obj} (e:s.heap.get? b=some o) (i:f7 o=true):(∀r,φ r≠some b)/\b∉D.fr:=
 ⟨λr q=>(h.own r b q).2.2.not e i,λq=>(h.ny b q).not e i⟩
theorem bz.Sz (h:bz D φ J C s) (l:eV D φ C s cg aT bW):∀b o,s.heap.get? b=some o->f7 o=true->bW.heap.get? b=some o:=
 λb o e i=>l.keep b o e (h.BJ e i).1 (h.BJ e i).2
theorem bz.m7 (h:bz D φ J C s) (l:eV D φ C s cg aT bW) {aO:Value} {v:I} (x:aZ φ s.heap aO v):aZ cg bW.heap aO v:=x.mono l.map (h.Sz l)
theorem bz.Es (h:bz D φ J C s) (l:eV D φ C s cg aT bW) {aO:List Value} {v:List I} (x:fG φ s.heap aO v):fG cg bW.heap aO v:=x.mono λU U y=>h.m7 l y
theorem eV.trans (bH:bz D cg cz aT bW) (l:eV D φ C s cg aT bW) (fX:eV D cg aT bW Xf gf alU):eV D φ C s Xf gf alU where
 map r a e:=fX.map r a (l.map r a e)
 keep b o e n q:=fX.keep b o (l.keep b o e n q) (λr z=>(l.new r b z).elim (n r) λz=>oE z.1 e) q
 au:=d5 l.au fX.au
 new r b e:=(fX.new r b e).elim (l.new r b) λz=>.inr ⟨(by
  cases q:s.heap.get? b with
  |none=>rfl
  |some o=>exact oE z.1 (l.keep b o q (λbV ff=>(bH.own bV b (l.map _ _ ff)).2.2.none z.1) λaP=>(bH.ny b aP).none z.1)),z.2.mono l.au⟩
theorem bz.Gz (h:bz D φ J C s) (k:∀b o,s.heap.get? b=some o->((∃gM,D.jy.get? b=some gM)\/b∈D.fr\/(∃r,φ r=some b)\/f7 o=true)->g.get? b=some o) (t:Nat) (ok:D.Ok):bz D φ J C {s with heap:=g,toks:=t}:=
 have im:∀b o,s.heap.get? b=some o->f7 o=true->g.get? b=some o:=λb o e i=>k b o e (.inr (.inr (.inr i)))
 ⟨λb o e=>k b o (h.keep b o e) (.inl ⟨o,e⟩),h.loc.mono (λU U e=>e) (λo e=>k _ o e (.inr (.inl ok.vf))) im λU U e U U=>e,
  λx a e=>(h.l9 x a e).mono (λU U e=>e) (λo z=>k a o z ((ok.Al x a e).elim (λz=>.inr (.inl z)) .inl)) im λU e U U=>e,
  λa e=>(h.ny a e).mono λo z=>k a o z (.inr (.inl e)),λr a e=>⟨(h.own r a e).1,(h.own r a e).2.1,(h.own r a e).2.2.mono λo z=>k a o z (.inr (.inr (.inl ⟨r,e⟩)))⟩,
  h.inj,h.oV,h.fresh,λr o e=>(h.obs r o e).elim λa z=>⟨a,z.1,z.2.mono (λU U e=>e) im λo q=>k a o q (.inr (.inr (.inl ⟨r,z.1⟩)))⟩,h.gens,h.drawn,h.os⟩
theorem bz.toks (h:bz D φ J C s) (t:Nat):bz D φ J C {s with toks:=t}:=⟨h.keep,h.loc,h.l9,h.ny,h.own,h.inj,h.oV,h.fresh,h.obs,h.gens,h.drawn,h.os⟩
theorem eV.toks (t):eV D φ C s φ C {s with toks:=t}:=⟨λU U e=>e,λU U e U U=>e,λU U e=>.inl e,fu _⟩
theorem bz.ext (h:bz D φ J C s) (k:∀b o,s.heap.get? b=some o->g.get? b=some o) (t:Nat) (ok:D.Ok):bz D φ J C {s with heap:=g,toks:=t}:=h.Gz (λb o e U=>k b o e) t ok
theorem eV.ext (k:∀b o,s.heap.get? b=some o->g.get? b=some o) (t):eV D φ C s φ C {s with heap:=g,toks:=t}:=⟨λU U e=>e,λb o e U U=>k b o e,λU U e=>.inl e,fu _⟩
theorem dG.NL {r:ay} {a:Addr}:(φ.set r a) r=some a:=bT rfl
theorem dG.vD {r bV:ay} {a b:Addr} {P:Prop} (e:(φ.set r a) bV=some b) (g6:bV=r->a=b->P) (gK:φ bV=some b->P):P:=by
 unfold dG.set at e
 by_cases q:bV=r
 .rw[bT q]at e;exact g6 q (iH e)
 .rw[bX q]at e;exact gK e
theorem bl.vD {h:bl} {r bV:ay} {P:Prop} (e:(h.set r o) bV=some gM) (g6:bV=r->o=gM->P) (gK:bV≠r->h bV=some gM->P):P:=by
 unfold bl.set at e
 by_cases q:bV=r
 .rw[bT q]at e;exact g6 q (iH e)
 .rw[bX q]at e;exact gK q e
theorem dG.V4 {r:ay} {a:Addr} (aQ:φ r=none):∀bV dB,φ bV=some dB->(φ.set r a) bV=some dB:=λbV dB e=>by
 unfold dG.set
 by_cases q:bV=r
 .exact oE aQ (q▸e)
 .exact(bX q).trans e
theorem bz.new (h:bz D φ J C s) (ok:D.Ok) (aY:s.heap.get? a=none) (k:∀b o,s.heap.get? b=some o->g.get? b=some o)
  (bw:g.get? a=some o) (aj:f7 o=false) (aP:nk D.w (φ.set (C.k::D.p) a) g a gh) (t:Nat):
  bz D (φ.set (C.k::D.p) a) J ⟨C.h.set (C.k::D.p) gh,C.k+1⟩ {s with heap:=g,toks:=t}/\eV D φ C s (φ.set (C.k::D.p) a) ⟨C.h.set (C.k::D.p) gh,C.k+1⟩ {s with heap:=g,toks:=t}:=
 have iZ:=dG.V4 (a:=a) (h.fresh _ (d_.self D.p C.k))
 have fN:∀{P:Prop} bV,φ bV=some a->P:=λbV e=>(h.own bV a e).2.2.none aY
 have aE:=h.ext k t ok
 ⟨⟨aE.keep,aE.loc.mono iZ (λU e=>e) (λU U e U=>e) λU U e U U=>e,λx a e=>(aE.l9 x a e).mono iZ (λU e=>e) (λU U e U=>e) λU e U U=>e,aE.ny,
  λbV dB e=>dG.vD e (λU q=>q▸⟨λq=>(h.ny _ q).none aY,(by
   cases q:D.jy.get? a with
   |none=>rfl
   |some o=>exact oE aY (h.keep _ _ q)),o,bw,aj⟩) (aE.own bV dB),
  λgq gW b bk bK=>dG.vD bk (λp z=>dG.vD bK (λq U=>p.trans q.symm) λbK=>fN gW (z▸bK)) λbk=>dG.vD bK (λU z=>fN gq (z▸bk)) λbK=>h.inj _ _ _ bk bK,
  h.oV.elim λcS f=>⟨a::cS,λbV dB e=>dG.vD e (λU z=>z▸jH) λe=>i9 _ (f _ _ e)⟩,
  λbV (e:d_ D.p (C.k+1) bV)=>(bX λq=>d_.UL (q▸e)).trans (h.fresh bV (e.mono (jV _))),
  λbV gM e=>bl.vD e (λq z=>⟨a,q▸dG.NL,z▸aP⟩) λU e=>(aE.obs bV gM e).elim λdB z=>⟨dB,iZ _ _ z.1,z.2.mono iZ (λU U e U=>e) λU e=>e⟩,h.gens,h.drawn,h.os⟩,
  ⟨iZ,λb o e U U=>k b o e,λbV b e=>dG.vD e (λq z=>.inr ⟨z▸aY,q▸d_.self _ _⟩) .inl,jV _⟩⟩
theorem bz.but (h:bz D φ J C s) (k:∀b o,b≠a->s.heap.get? b=some o->g.get? b=some o) (XW:D.jy.get? a=none) (G1:qe g a)
  (loc:Cf D.env φ cz g) (l9:∀x b,D.env.cells.lookup x=some b->z_ D.env φ cz g x b) (bI:aT.k=C.k) (obs:∀r o,aT.h r=some o->∃a,φ r=some a/\nk D.w φ g a o) (t:Nat):bz D φ cz aT {s with heap:=g,toks:=t}:=
 have T_:∀b,qe s.heap b->qe g b:=λb x=>if q:b=a then q▸G1 else x.mono λo e=>k b o q e
 ⟨λb o e=>k b o (λq=>oE XW (q▸e)) (h.keep b o e),loc,l9,λb e=>T_ b (h.ny b e),λr b e=>⟨(h.own r b e).1,(h.own r b e).2.1,T_ b (h.own r b e).2.2⟩,h.inj,h.oV,λr e=>h.fresh r (bI▸e),obs,h.gens,h.drawn,h.os⟩
theorem bz.mut (h:bz D φ J C s) {g:Heap} {r:ay} {a:Addr} {gh:cw} (ok:D.Ok) (aQ:φ r=some a) (k:∀b o,b≠a->s.heap.get? b=some o->g.get? b=some o)
  (bw:g.get? a=some o) (aj:f7 o=false) (aP:(∀b o,s.heap.get? b=some o->f7 o=true->g.get? b=some o)->nk D.w φ g a gh) (t):
  bz D φ J ⟨C.h.set r gh,C.k⟩ {s with heap:=g,toks:=t}/\eV D φ C s φ ⟨C.h.set r gh,C.k⟩ {s with heap:=g,toks:=t}:=
 have w:=h.own r a aQ
 have im:∀b o,s.heap.get? b=some o->f7 o=true->g.get? b=some o:=λb o e i=>k b o (λq=>(h.BJ e i).1 r (q▸aQ)) e
 ⟨h.but (aT:=⟨C.h.set r gh,C.k⟩) k w.2.1 ⟨o,bw,aj⟩ (h.loc.mono (λU U e=>e) (λo e=>k _ o (λq=>w.1 (q▸ok.vf)) e) im λU U e U U=>e)
  (λx b e=>(h.l9 x b e).mono (λU U e=>e) (λo z=>k b o (λq=>(ok.Al x b e).elim (λy=>w.1 (q▸y)) λy=>y.elim λU y=>oE w.2.1 (q▸y)) z) im λU e U U=>e) rfl
  (λbV gM e=>bl.vD e (λq z=>⟨a,q▸aQ,z▸aP im⟩) λn e=>(h.obs bV gM e).elim λdB z=>⟨dB,z.1,z.2.mono (λU U e=>e) im λo q=>k dB o (λy=>n (h.inj _ _ _ (y▸z.1) aQ)) q⟩) t,
  ⟨λU U e=>e,λb o e n U=>k b o (λq=>n r (q▸aQ)) e,λU U e=>.inl e,fu _⟩⟩
theorem bz.skip (h:bz D φ J C s) {k:Nat} (l:C.k<=k):bz D φ J ⟨C.h,k⟩ s:=⟨h.keep,h.loc,h.l9,h.ny,h.own,h.inj,h.oV,λr e=>h.fresh r (e.mono l),h.obs,h.gens,h.drawn,h.os⟩
theorem bz.into (h:bz D φ J C s):bz (D.at (C.k::D.p)) φ J ⟨C.h,0⟩ s:=⟨h.keep,h.loc,h.l9,h.ny,h.own,h.inj,h.oV,λr e=>h.fresh r (d_.sub e),h.obs,h.gens,h.drawn,h.os⟩
end
theorem bz.U9 {D:dU} {φ:dG} {J:aL} (h:bz D φ J C s):∃cS:List Addr,∀a,a∈cS↔∃r,φ r=some a:=by
 classical
 obtain⟨cS,f⟩:=h.oV
 refine⟨cS.filter λa=>decide (∃r,φ r=some a),λa=>?_⟩
 rw[List.mem_filter,lH]
 exact⟨λq=>q.2,λ⟨r,e⟩=>⟨f r a e,r,e⟩⟩
theorem bz.back {D di:dU} {φ cg:dG} {J cz:aL} {C aT:bL} (ok:D.Ok) (B:bz D φ J C s) (aY:∀a,a∈cS↔∃r,φ r=some a) (dj:di.jy=hideAll s.heap cS) (cA:di.p=C.k::D.p) (aR:di.eX=D.eX) (eL:di.w=D.w)
  (k:∀b o,s.heap.get? b=some o->br.heap.get? b=some o) (bU:bz di cg cz aT bW) (l:eV di φ ⟨C.h,0⟩ br cg aT bW):bz D cg J ⟨aT.h,C.k+1⟩ bW/\eV D φ C s cg ⟨aT.h,C.k+1⟩ bW:=
 have C':∀b o,s.heap.get? b=some o->(∀r,φ r≠some b)->di.jy.get? b=some o:=λb o e n=>(cJ (λh=>Heap.get? h b) dj).trans (EL _ e λq=>((aY b).mp q).elim λr z=>n r z)
 have nZ:∀b o,s.heap.get? b=some o->(∀r,φ r≠some b)->bW.heap.get? b=some o:=λb o e n=>bU.keep b o (C' b o e n)
 have im:∀b o,s.heap.get? b=some o->f7 o=true->bW.heap.get? b=some o:=λb o e i=>nZ b o e (B.BJ e i).1
 have s4:∀a,a∈D.fr->∀r,φ r≠some a:=λa e r z=>(B.own r a z).1 e
 have MM:∀a o,D.jy.get? a=some o->∀r,φ r≠some a:=λa o e r z=>oE (B.own r a z).2.1 e
 ⟨⟨λb o e=>nZ b o (B.keep b o e) (MM b o e),B.loc.mono l.map (λo e=>nZ _ o e (s4 _ ok.vf)) im λU U e U U=>e,
  λx a e=>(B.l9 x a e).mono l.map (λo z=>nZ a o z ((ok.Al x a e).elim (s4 a) λz=>z.elim λo z=>MM a o z)) im λU e U U=>e,
  λa e=>(B.ny a e).mono λo z=>nZ a o z (s4 a e),
  λr a e=>have w:=bU.own r a e;⟨λz=>(B.ny a z).elim λo e=>oE w.2.1 (C' a o e.1 (s4 a z)),(by
   cases z:D.jy.get? a with
   |none=>rfl
   |some o=>exact oE w.2.1 (C' a o (B.keep _ _ z) (MM _ _ z))),w.2.2⟩,bU.inj,bU.oV,
  λr (e:d_ D.p (C.k+1) r)=>(by
   cases q:cg r with
   |none=>rfl
   |some b=>exact(l.new r b q).elim (λz=>oE (B.fresh r (e.mono (jV _))) z) λz=>(d_.apart (cA▸z.2) e).elim),
  λr o e=>eL▸bU.obs r o e,bU.gens.trans (cJ Shared.gens aR),bU.drawn.trans (cJ Shared.drawn aR),bU.os.trans (cJ Shared.os aR)⟩,
  l.map,λb o e n U=>nZ b o e n,λr b e=>(l.new r b e).elim .inl λz=>.inr ⟨(by
   cases q:s.heap.get? b with
   |none=>rfl
   |some o=>exact oE z.1 (k _ _ q)),d_.sub (cA▸z.2)⟩,jV _⟩
section
variable {J:aL}
theorem aL.DH {x y:Str} {v w:I} {P:Prop} (e:(J.put x v).lookup y=some w) (g6:y=x->v=w->P) (gK:y≠x->J.lookup y=some w->P):P:=by
 rw[aL.TR]at e
 by_cases q:y=x
 .rw[bT q]at e;exact(Option.map_eq_some_iff.mp e).elim λU z=>g6 q z.2
 .rw[bX q]at e;exact gK q e
theorem bz.store (h:bz D φ J C s) (ok:D.Ok) (bI:D.env.kindOf x=some .local) (bJ:aZ φ s.heap aO v)
  (bM:s.heap.Ns D.env.locals m) (aI:∀x v,J.lookup x=some v->v≠.undef->D.env.kindOf x=some .local->∃aO,m x=some aO/\aZ φ s.heap aO v)
  (bG:g.Ns D.env.locals λy=>if y=x then some aO else m y) (aR:Heap.SameBut D.env.locals s.heap g) (t):
  bz D φ (J.put x v) C {s with heap:=g,toks:=t}/\eV D φ C s φ C {s with heap:=g,toks:=t}:=
 have k:=aR.extBut
 have im:∀b o,s.heap.get? b=some o->f7 o=true->g.get? b=some o:=λb o e i=>k b o (λq=>(h.BJ e i).2 (q▸ok.vf)) e
 ⟨h.but (a:=D.env.locals) k (ok.Gp _ ok.vf) (Ns.live bG)
  ⟨_,bG,λy w e z c=>aL.DH e (λq p=>⟨aO,bT q,p▸bJ.mono (λU U e=>e) im⟩) λq e=>(aI y w e z c).elim λr p=>⟨r,(bX q).trans p.1,p.2.mono (λU U e=>e) im⟩⟩
  (λy a e=>(h.l9 y a e).mono (λU U e=>e) (λo z=>k a o (ok.yp _ _ e) z) im λw e U d=>aL.DH e (λq U=>absurd (q▸bI) d) λU e=>e) rfl
  (λr o e=>(h.obs r o e).elim λa z=>⟨a,z.1,z.2.mono (λU U e=>e) im λo q=>k a o (λy=>(h.own r a z.1).1 (y▸ok.vf)) q⟩) t,
  ⟨λU U e=>e,λb o e U q=>k b o (λz=>q (z▸ok.vf)) e,λU U e=>.inl e,fu _⟩⟩
theorem bz.amF (h:bz D φ J C s) (ok:D.Ok) (bI:D.env.kindOf x=some .cell) (aY:D.env.cells.lookup x=some a) (bD:a∈D.fr) (bJ:aZ φ s.heap aO v)
  (bG:g.IsCell a (some aO)) (aR:Heap.SameBut a s.heap g) (t):
  bz D φ (J.put x v) C {s with heap:=g,toks:=t}/\eV D φ C s φ C {s with heap:=g,toks:=t}:=
 have k:=aR.extBut
 have im:∀b o,s.heap.get? b=some o->f7 o=true->g.get? b=some o:=λb o e i=>k b o (λq=>(h.BJ e i).2 (q▸bD)) e
 ⟨h.but (a:=a) k (ok.Gp _ bD) (bG.elim λo z=>⟨o,z.1,by unfold f7;rw[z.2]⟩)
  (h.loc.mono (λU U e=>e) (λo e=>k _ o (Ne.symm (ok.yp _ _ aY)) e) im λy w e U c=>aL.DH e (λq U=>nomatch (q▸bI).symm.trans c) λU e=>e)
  (λy b e=>if q:y=x then(iH ((q▸aY).symm.trans e)▸⟨_,bG,λw e U U=>aL.DH e (λU p=>⟨aO,rfl,p▸bJ.mono (λU U e=>e) im⟩) λn U=>absurd q n⟩:z_ D.env φ (J.put x v) g y b)
   else(h.l9 y b e).mono (λU U e=>e) (λo z=>k b o (λw=>q (ok.FI _ _ _ (w▸e) aY)) z) im λw e U U=>aL.DH e (λp U=>absurd p q) λU e=>e) rfl
  (λr o e=>(h.obs r o e).elim λb z=>⟨b,z.1,z.2.mono (λU U e=>e) im λo q=>k b o (λy=>(h.own r b z.1).1 (y▸bD)) q⟩) t,
  ⟨λU U e=>e,λb o e U q=>k b o (λz=>q (z▸bD)) e,λU U e=>.inl e,fu _⟩⟩
end
abbrev dR:Value->Shared->Prop:=λU U=>False
noncomputable abbrev cX (D:dU):=model c3 D.w
inductive d6 {b9 ef:Type} (R:dG->Heap->b9->ef->Prop) (D:dU) J (φ:dG) C (s:Shared) (Q:ef->bL->Prop) (a:b9) (bW:Shared):Prop
 |mk (b:ef) (cg:dG) aT (l:eV D φ C s cg aT bW) (r:R cg bW.heap a b) (B:bz D cg J aT bW) (q:Q b aT)
def mL (R:dG->Heap->b9->ef->Prop) (D:dU) (t:Sem b9) (J:aL) (C:bL) (Q:ef->bL->Prop):Prop:=
 ∀φ s,bz D φ J C s->wpAny (cX D) D.A t (d6 R D J φ C s Q) dR s
abbrev Xi:dG->Heap->Bool->Bool->Prop:=λU U a b=>a=b
section
variable {R:dG->Heap->b9->ef->Prop}
theorem d6.k {aH:Prop} (p:d6 R D J φ C s Q a bW) (k:∀b cg aT,eV D φ C s cg aT bW->R cg bW.heap a b->bz D cg J aT bW->Q b aT->aH):aH:=by
 induction p with|mk b cg aT l r B q=>exact k b cg aT l r B q
theorem d6.after (B:bz D b3 dQ aG br) (l:eV D φ C s b3 aG br) (p:d6 R D J b3 aG br Q a bW):d6 R D J φ C s Q a bW:=
 p.k λb cg aT fX r bU q=>⟨b,cg,aT,l.trans B fX,r,bU,q⟩
theorem d6.mono (p:d6 R D J φ C s Q a bW) (i:∀b C,Q b C->x7 b C):d6 R D J φ C s x7 a bW:=
 p.k λb cg aT fX r bU q=>⟨b,cg,aT,fX,r,bU,i _ _ q⟩
theorem d6.now (B:bz D φ J C s) (r:R φ s.heap a b) (q:Q b C):d6 R D J φ C s Q a s:=⟨b,φ,C,.refl,r,B,q⟩
theorem d6.toks (B:bz D φ J C s) (t) (r:R φ s.heap a b) (q:Q b C):d6 R D J φ C s Q a {s with toks:=t}:=⟨b,φ,C,.toks t,r,B.toks t,q⟩
theorem mL.mono (h:mL R D t J C Q) (i:∀b C,Q b C->x7 b C):mL R D t J C x7:=λφ s B=>gi (h φ s B) (λU U p=>p.mono i) λU U x=>x
theorem mL.step {t:Sem b9} {nr:b9->Shared->Prop} (h:mL R D t J C Q) (B:bz D φ J C s)
  (k:∀a b b3 br aG,R b3 br.heap a b->bz D b3 J aG br->eV D φ C s b3 aG br->Q b aG->nr a br):wpAny (cX D) D.A t nr dR s:=
 gi (h φ s B) (λa br p=>p.k λb b3 aG l r bQ q=>k a b b3 br aG r bQ l q) λU U x=>x
end
def dW (D:dU) (e:Expr) (J:aL) (C:bL) (Q:I->bL->Prop):Prop:=mL aZ D (eval e D.env) J C Q
def ja (D:dU) (e:Expr) (J:aL) (C:bL) (Q:Bool->bL->Prop):Prop:=mL Xi D (isTrue e D.env (eval e D.env)) J C Q
def uH (D:dU) (ao:List Expr) (J:aL) (C:bL) (Q:List I->bL->Prop):Prop:=∀pos,mL fG D (spliced (backTo pos (starEach ao D.env))) J C Q
section
theorem dW.mono (h:dW D e J C Q) (i:∀b C,Q b C->x7 b C):dW D e J C x7:=mL.mono h i
theorem ja.mono (h:ja D e J C Q) (i:∀b C,Q b C->x7 b C):ja D e J C x7:=mL.mono h i
theorem acJ (ok:D.Ok) (hd:(x==("__debug__":Str))=false) (bI:D.env.kindOf x=some .local) (bE:J.lookup x=some v) (j8:v≠.undef) (h:Q v C):dW D (.Name x p) J C Q:=λφ s B=>by
 refine iu λaH ez=>?_
 obtain⟨m,bG,aI⟩:=B.loc
 obtain⟨aO,bk,bK⟩:=aI x v bE j8 bI
 refine ez ?_
 exact wpAny_Name (wpAny_loadName_local ok.kind bI bG bk (.now B bK h)) hd
theorem acE (ok:D.Ok) (hd:(x==("__debug__":Str))=false) (bI:D.env.kindOf x=some .globalImplicit) (bE:E5 D x v) (h:Q v C):dW D (.Name x p) J C Q:=λφ s B=>by
 obtain⟨aO,g5,bR⟩:=bE
 have g:s.heap.Ns D.env.globals D.kc:=by rw[ok.globals];exact ok.g.keeps B.keep
 have b:s.heap.Ns D.env.builtins D.dK:=by rw[ok.builtins];exact ok.b.keeps B.keep
 have r:=bR φ s.heap B.keep
 rcases g5 with bk|⟨iI,bG,bk⟩
 .exact Name_function_global ok.kind bI (loadGlobal_global g bk (.now B r h)) hd
 .exact Name_function_global ok.kind bI (loadGlobal_builtin g iI b ((ok.bv x bG).trans bk) (.now B r h)) hd
theorem Rp (ok:D.Ok) (hd:(x==("__debug__":Str))=false) (aN:(x=="__classdict__")=false) (bI:D.env.kindOf x=some .cell\/D.env.kindOf x=some .free) (aY:D.env.cells.lookup x=some a) (bE:J.lookup x=some v) (j8:v≠.undef)
  (h:Q v C):dW D (.Name x p) J C Q:=λφ s B=>by
 obtain⟨iD,Se,f⟩:=B.l9 x a aY
 obtain⟨aO,rfl,nv⟩:=f v bE j8 (by rcases bI with bI|bI<;>rw[bI]<;>exactλe=>by nomatch e)
 rcases bI with bI|bI
 .exact wpAny_Name (wpAny_loadName_cell ok.kind bI aY Se (.now B nv h)) hd
 .exact wpAny_Name (wpAny_loadName_free ok.kind bI aY Se (.now B nv h) aN) hd
theorem acG (h:Q (.int i) C):dW D (.Constant (.int i) k p) J C Q:=λφ s B=>wpAny_Constant_int (.toks B _ (.int _ _) h)
theorem acR (h:Q (.str x) C):dW D (.Constant (.str x) k p) J C Q:=λφ s B=>Constant_str (.toks B _ (.str _ _) h)
theorem acv (h:Q (.bool c) C):dW D (.Constant (.bool c) k p) J C Q:=λφ s B=>Constant_bool (.now B (.bool _) h)
theorem acN (h:Q .none C):dW D (.Constant .none k p) J C Q:=λφ s B=>Constant_none (.now B .none h)
theorem acw (h:Q (.bytes (b.map UInt8.toNat)) C):dW D (.Constant (.bytes b) k p) J C Q:=λφ s B=>
 show wpAny _ _ (mkTextBytes b.toArray) _ _ _ from eP (wpAny_fresh (jJ (.toks B _ (by have:=aZ.bytes (φ:=φ) (h:=s.heap) b.toArray s.toks;simpa using this) h)))
theorem acq (h:Q [] C):uH D [] J C Q:=λpos φ s B=>wpAny_items_nil (.now B .nil h)
theorem acp {e:Expr} (h:dW D e J C λv aG=>uH D ao J aG λaa fE=>Q (v::aa) fE)
  (cK:starEach (e::ao) D.env=(false,eval e D.env)::starEach ao D.env):uH D (e::ao) J C Q:=λpos φ s B=>
 wpAny_items_cons (h.step B λa b b3 br aG r bQ l q=>(q pos).step bQ λcS eW jX jC fE kS fh gp pq=>⟨_,jX,fE,l.trans bQ gp,.cons (bQ.m7 gp r) kS,fh,pq⟩) cK
def vY (D:dU) (eO:Operator) (a b:I) (J:aL) (C:bL) (Q:I->bL->Prop):Prop:=
 ∀φ s dZ eA,bz D φ J C s->aZ φ s.heap dZ a->aZ φ s.heap eA b->wpAny (cX D) D.A (binaryOp eO dZ eA) (d6 aZ D J φ C s Q) dR s
theorem acu {l r:Expr} (h:dW D l J C λa aG=>dW D r J aG λb fE=>vY D eO a b J fE Q):dW D (.BinOp l eO r p) J C Q:=λφ s B=>
 wpAny_BinOp (h.step B λdZ a b3 br aG e7 bQ dH g_=>g_.step bQ λeA b jX jC fE kS fh gp pq=>
  gi (pq jX jC dZ eA fh (bQ.m7 gp e7) kS) (λU U p=>p.after fh (dH.trans bQ gp)) λU U x=>x)
def Jz (a b:Int):Prop:=(-(2^64)<a/\a<2^64)\/(-(2^64)<b/\b<2^64)
theorem Jz.ok (h:Jz a b):IntMulOk a b:=h.elim (λh=>.of_left (intBits_le_64 h.1 h.2)) λh=>.of_right (intBits_le_64 h.1 h.2)
section
theorem DD (k:∀(s:Shared) (t u:Tok) (nr:Value->Shared->Prop),nr (.int c s.toks) {s with toks:=s.toks+1}->wpAny (cX D) D.A (binaryOp eO (.int a t) (.int b u)) nr dR s)
  (h:Q (.int c) C):vY D eO (.int a) (.int b) J C Q:=λφ s dZ eA B nw oW=>by
 obtain⟨t,rfl⟩:=nw.int_inv
 obtain⟨u,rfl⟩:=oW.int_inv
 exact k s t u _ (.toks B _ (.int _ _) h)
theorem aj3 (h:Q (.int (a+b)) C):vY D .Add (.int a) (.int b) J C Q:=DD (λs t u nr q=>P.add_int q) h
theorem aj7 (h:Q (.int (a -b)) C):vY D .Sub (.int a) (.int b) J C Q:=DD (λs t u nr q=>P.sub_int q) h
theorem aj4 (n:b≠0) (aP:-1073741824<b/\b<1073741824) (h:Q (.int (a.fdiv b)) C):vY D .FloorDiv (.int a) (.int b) J C Q:=DD (λs t u nr q=>floordiv_int n q (.inl (PyProof.noPylong_small (by omega)))) h
theorem aj5 (n:b≠0) (h:Q (.int (a.fmod b)) C):vY D .Mod (.int a) (.int b) J C Q:=DD (λs t u nr q=>mod_int' n q) h
theorem aj6 (n:0<=b) (aP:(Builtin.Int.intBits a:Int)*b<=2^27) (h:Q (.int (a^b.toNat)) C):vY D .Pow (.int a) (.int b) J C Q:=DD (λs t u nr q=>pow_int n aP q) h
end
def tM (D:dU) (eO:CmpOp) (a b:I) (J:aL) (C:bL) (Q:Bool->bL->Prop):Prop:=
 ∀φ s dZ eA,bz D φ J C s->aZ φ s.heap dZ a->aZ φ s.heap eA b->wpAny (cX D) D.A (compareOp eO dZ eA) (d6 (λU U aO c=>aO=.bool c) D J φ C s Q) dR s
theorem acA {l r:Expr} {p:Pos} (bM:behindInMarks eO r=false) (h:dW D l J C λa aG=>dW D r J aG λb fE=>tM D eO a b J fE λc=>Q (.bool c)):dW D (.Compare l [eO] [r] p) J C Q:=λφ s B=>
 wpAny_Compare1 (h.step B λdZ a b3 br aG e7 bQ dH g_=>g_.step bQ λeA b jX jC fE kS fh gp pq=>
  gi (pq jX jC dZ eA fh (bQ.m7 gp e7) kS) (λa bW p=>(p.after fh (dH.trans bQ gp)).k λc cg aT fX e bU q=>⟨_,cg,aT,fX,e▸.bool c,bU,q⟩) λU U x=>x) bM
theorem anS {l r:Expr} {p:Pos} (bM:behindInMarks eO r=false) (h:dW D l J C λa aG=>dW D r J aG λb fE=>tM D eO a b J fE Q):ja D (.Compare l [eO] [r] p) J C Q:=λφ s B=>
 wpAny_isTrue_Compare1 (h.step B λdZ a b3 br aG e7 bQ dH g_=>g_.step bQ λeA b jX jC fE kS fh gp pq=>
  gi (pq jX jC dZ eA fh (bQ.m7 gp e7) kS) (λa bW p=>(p.after fh (dH.trans bQ gp)).k λc cg aT fX e bU q=>e▸E0 ⟨c,cg,aT,fX,rfl,bU,q⟩) λU U x=>x) bM
section
theorem A5 (k:∀s t u nr,nr (.bool c) s->wpAny (cX D) D.A (compareOp eO (.int a t) (.int b u)) nr dR s)
  (h:Q c C):tM D eO (.int a) (.int b) J C Q:=λφ s dZ eA B nw oW=>by
 obtain⟨t,rfl⟩:=nw.int_inv
 obtain⟨u,rfl⟩:=oW.int_inv
 exact k s t u _ (.now B rfl h)
theorem ajI (h:Q (decide (a=b)) C):tM D .Eq (.int a) (.int b) J C Q:=A5 (λs t u nr q=>P.eq_int (by simpa[BEq.beq]using q)) h
theorem ajN (h:Q (decide (a≠b)) C):tM D .NotEq (.int a) (.int b) J C Q:=A5 (λs t u nr q=>P.ne_int (by simpa[bne,BEq.beq]using q)) h
theorem ajM (h:Q (decide (a<b)) C):tM D .Lt (.int a) (.int b) J C Q:=A5 (λs t u nr q=>P.lt_int q) h
theorem ajL (h:Q (decide (a<=b)) C):tM D .LtE (.int a) (.int b) J C Q:=A5 (λs t u nr q=>P.le_int q) h
theorem ajK (h:Q (decide (b<a)) C):tM D .Gt (.int a) (.int b) J C Q:=A5 (λs t u nr q=>P.gt_int q) h
theorem ajJ (h:Q (decide (b<=a)) C):tM D .GtE (.int a) (.int b) J C Q:=A5 (λs t u nr q=>P.ge_int q) h
end
theorem acL (h:dW D e J C λa aG=>∃i,a=.int i/\Q (.int (-i)) aG):dW D (.UnaryOp .USub e p) J C Q:=λφ s B=>
 wpAny_UnaryOp (h.step B λdZ a b3 br aG e7 bQ dH g_=>by
  obtain⟨i,rfl,q⟩:=g_
  obtain⟨t,rfl⟩:=e7.int_inv
  exact P.neg_int (d6.after bQ dH (.toks bQ _ (.int _ _) q)))
theorem anT (h:ja D e J C λb=>Q (!b)):ja D (.UnaryOp .Not e p) J C Q:=λφ s B=>
 wpAny_isTrue_Not (h.step B λa b b3 br aG e7 bQ dH g_=>⟨_,b3,aG,dH,cJ _ e7,bQ,g_⟩)
theorem anQ (h:ja D x J C λb aG=>(b=true->ja D y J aG Q)/\(b=false->Q false aG)):ja D (.BoolOp .And [x,y] p) J C Q:=λφ s B=>
 OR (wpAny_allTrue_And_cons (h.step B λa b b3 br aG e7 bQ dH g_=>by
  nomatch e7
  cases a with
  |false=>exact⟨_,b3,aG,dH,rfl,bQ,g_.2 rfl⟩
  |true=>exact wpAny_allTrue_And_cons ((g_.1 rfl).step bQ λa b jX jC fE kS fh gp pq=>by
    nomatch kS
    cases a with
    |false=>exact⟨_,jX,fE,dH.trans bQ gp,rfl,fh,pq⟩
    |true=>exact wpAny_allTrue_And_nil ⟨_,jX,fE,dH.trans bQ gp,rfl,fh,pq⟩)))
theorem anU (h:ja D x J C λb aG=>(b=false->ja D y J aG Q)/\(b=true->Q true aG)):ja D (.BoolOp .Or [x,y] p) J C Q:=λφ s B=>
 OR (EV (h.step B λa b b3 br aG e7 bQ dH g_=>by
  nomatch e7
  cases a with
  |true=>exact⟨_,b3,aG,dH,rfl,bQ,g_.2 rfl⟩
  |false=>exact EV ((g_.1 rfl).step bQ λa b jX jC fE kS fh gp pq=>by
    nomatch kS
    cases a with
    |true=>exact⟨_,jX,fE,dH.trans bQ gp,rfl,fh,pq⟩
    |false=>exact wpAny_allTrue_Or_nil ⟨_,jX,fE,dH.trans bQ gp,rfl,fh,pq⟩)))
noncomputable def xD:I->Option Bool| .bool b=>some b| .int i=>some (i != 0)| .none=>some false|_=>none
theorem Og (e:xD v=some b) (r:aZ φ s.heap aO v) (h:Q b s):wpAny (cX D) D.A (truthy aO) Q dR s:=by
 nomatch v<;>simp only[xD,ED,reduceCtorEq]at e<;>subst e
 .rw[r.none_inv];exact truthy_none h
 .rw[r.bool_inv];exact E0 h
 .obtain⟨t,rfl⟩:=r.int_inv;exact P.truthy_int h
theorem anW (cK:isTrue e D.env (eval e D.env)=(do let v <-eval e D.env;standAt e.pos;holding [v] (truthy v)))
  (h:dW D e J C λv aG=>∃b,xD v=some b/\Q b aG):ja D e J C Q:=λφ s B=>
 wpAny_isTrue_value (h.step B λdZ a b3 br aG e7 bQ dH g_=>by
  obtain⟨b,e,q⟩:=g_
  exact Og e e7 (d6.after bQ dH (.now bQ rfl q))) cK
theorem acF (h:ja D c J C λb aG=>(b=true->dW D x J aG Q)/\(b=false->dW D y J aG Q)):dW D (.IfExp c x y p) J C Q:=λφ s B=>
 wpAny_IfExp (h.step B λa b b3 br aG e7 bQ dH g_=>by
  nomatch e7
  induction a with
  |true=>exact gi (g_.1 rfl b3 br bQ) (λU U p=>p.after bQ dH) λU U x=>x
  |false=>exact gi (g_.2 rfl b3 br bQ) (λU U p=>p.after bQ dH) λU U x=>x)
theorem acr (h:dW D x J C λv aG=>∃b,xD v=some b/\(b=true->dW D y J aG Q)/\(b=false->Q v aG)):dW D (.BoolOp .And [x,y] p) J C Q:=λφ s B=>
 wpAny_And2 (h.step B λdZ a b3 br aG e7 bQ dH g_=>by
  obtain⟨b,e,DI,M_⟩:=g_
  refine Og e e7 ?_
  cases b with
  |true=>exact gi (DI rfl b3 br bQ) (λU U p=>p.after bQ dH) λU U x=>x
  |false=>exact d6.after bQ dH (.now bQ e7 (M_ rfl)))
theorem acO (h:dW D x J C λv aG=>∃b,xD v=some b/\(b=false->dW D y J aG Q)/\(b=true->Q v aG)):dW D (.BoolOp .Or [x,y] p) J C Q:=λφ s B=>
 wpAny_Or2 (h.step B λdZ a b3 br aG e7 bQ dH g_=>by
  obtain⟨b,e,DI,M_⟩:=g_
  refine Og e e7 ?_
  cases b with
  |false=>exact gi (DI rfl b3 br bQ) (λU U p=>p.after bQ dH) λU U x=>x
  |true=>exact d6.after bQ dH (.now bQ e7 (M_ rfl)))
end
noncomputable def B_ (φ:dG) (h:Heap) (dI:aL->bL->Prop) (gZ:I->bL->Prop) (J:aL) (C:bL):Flow->Prop
 | .next=>dI J C
 | .ret aO=>∃v,aZ φ h aO v/\gZ v C
 |_=>False
inductive tN (D:dU) (φ:dG) C (s:Shared) (dI:aL->bL->Prop) (gZ:I->bL->Prop) (f:Flow) (bW:Shared):Prop
 |mk (cg:dG) cz aT (l:eV D φ C s cg aT bW) (B:bz D cg cz aT bW) (q:B_ cg bW.heap dI gZ cz aT f)
inductive lN (D:dU) (φ:dG) C (s:Shared) (K:aL->bL->Prop) (u:Unit) (bW:Shared):Prop
 |mk (cg:dG) cz aT (l:eV D φ C s cg aT bW) (B:bz D cg cz aT bW) (q:K cz aT)
def bF (D:dU) (t:Stmt) (J:aL) (C:bL) (dI:aL->bL->Prop) (gZ:I->bL->Prop):Prop:=∀φ s,bz D φ J C s->wpAny (cX D) D.A (exec t D.env) (tN D φ C s dI gZ) dR s
def oN (D:dU) (t:List Stmt) (J:aL) (C:bL) (dI:aL->bL->Prop) (gZ:I->bL->Prop):Prop:=∀φ s,bz D φ J C s->wpAny (cX D) D.A (execs t D.env) (tN D φ C s dI gZ) dR s
def nO (D:dU) (t:Expr) (v:I) (J:aL) (C:bL) (K:aL->bL->Prop):Prop:=∀φ s aO,bz D φ J C s->aZ φ s.heap aO v->wpAny (cX D) D.A (assign t D.env aO) (lN D φ C s K) dR s
def sr (D:dU) (fq:List Expr) (aa:List I) (J:aL) (C:bL) (K:aL->bL->Prop):Prop:=∀φ s eG,bz D φ J C s->fG φ s.heap eG aa->wpAny (cX D) D.A (assignInOrder ((assignEach fq D.env).map (·.2)) eG) (lN D φ C s K) dR s
section
variable {D:dU} {dI K:aL->bL->Prop}
theorem tN.k {aH:Prop} (p:tN D φ C s dI gZ f bW) (k:∀cg cz aT,eV D φ C s cg aT bW->bz D cg cz aT bW->B_ cg bW.heap dI gZ cz aT f->aH):aH:=by
 induction p with|mk cg cz aT l B q=>exact k cg cz aT l B q
theorem lN.k {aH:Prop} (p:lN D φ C s K u bW) (k:∀cg cz aT,eV D φ C s cg aT bW->bz D cg cz aT bW->K cz aT->aH):aH:=by
 induction p with|mk cg cz aT l B q=>exact k cg cz aT l B q
theorem tN.after (B:bz D b3 dQ aG br) (l:eV D φ C s b3 aG br) (p:tN D b3 aG br dI gZ f bW):tN D φ C s dI gZ f bW:=
 p.k λcg cz aT fX bU q=>⟨cg,cz,aT,l.trans B fX,bU,q⟩
theorem B_.k {J:aL} {C:bL} {P:Flow->Prop} (q:B_ φ h dI gZ J C f) (yW:dI J C->P .next) (Dc:∀aO v,aZ φ h aO v->gZ v C->P (.ret aO)):P f:=by
 induction f with
 |next=>exact yW q
 |ret aO=>exact q.elim λv q=>Dc aO v q.1 q.2
 |brk=>exact q.elim
 |cont=>exact q.elim
theorem lN.after (B:bz D b3 dQ aG br) (l:eV D φ C s b3 aG br) (p:lN D b3 aG br K u bW):lN D φ C s K u bW:=
 p.k λcg cz aT fX bU q=>⟨cg,cz,aT,l.trans B fX,bU,q⟩
theorem oN.mono {E8:aL->bL->Prop} (h:oN D t J C dI gZ) (i:∀J C,dI J C->E8 J C) (j:∀v C,gZ v C->Jx v C):oN D t J C E8 Jx:=λφ s B=>
 gi (h φ s B) (λf bW p=>p.k λcg cz aT l bU q=>⟨cg,cz,aT,l,bU,q.k (i _ _) λaO v a b=>⟨v,a,j _ _ b⟩⟩) λU U x=>x
theorem nO.mono {v:I} (h:nO D t v J C K) (i:∀J C,K J C->XI J C):nO D t v J C XI:=λφ s aO B r=>
 gi (h φ s aO B r) (λf bW p=>p.k λcg cz aT l bU q=>⟨cg,cz,aT,l,bU,i _ _ q⟩) λU U x=>x
theorem ac8 (h:dI J C):oN D [] J C dI gZ:=λφ s B=>wpAny_execs_nil ⟨φ,J,C,.refl,B,h⟩
theorem acZ (h:dI J C):bF D (.Pass p) J C dI gZ:=λφ s B=>wpAny_Pass ⟨φ,J,C,.refl,B,h⟩
theorem ac0 (h:dW D e J C gZ):bF D (.Return (some e) p) J C dI gZ:=λφ s B=>
 wpAny_Return_some (h.step B λaO v b3 br aG r bQ l q=>⟨b3,J,aG,l,bQ,v,r,q⟩)
theorem ac1 (h:gZ .none C):bF D (.Return none p) J C dI gZ:=λφ s B=>wpAny_Return_none ⟨φ,J,C,.refl,B,.none,.none,h⟩
theorem acY (h:ja D c J C λt aG=>(t=true->oN D b J aG dI gZ)/\(t=false->oN D o J aG dI gZ)):bF D (.If c b o p) J C dI gZ:=λφ s B=>
 wpAny_If (h.step B λa b b3 br aG e7 bQ dH g_=>by
  nomatch e7
  induction a with
  |true=>exact gi (g_.1 rfl b3 br bQ) (λU U p=>p.after bQ dH) λU U x=>x
  |false=>exact gi (g_.2 rfl b3 br bQ) (λU U p=>p.after bQ dH) λU U x=>x)
noncomputable def UK:I->Bool| .none=>true| .bool _=>true| .int _=>true| .str _=>true| .bytes _=>true|_=>false
theorem acW (aR:swapsWith e none p.line D.env=pure false) (aj:interactive D.env=false) (h:dW D e J C λv aG=>UK v=true/\dI J aG):bF D (.Expr e p) J C dI gZ:=λφ s B=>
 wpAny_Expr (h.step B λaO v b3 br aG r bQ l q=>by
  have k:tN D φ C s dI gZ .next br:=⟨b3,J,aG,l,bQ,q.2⟩
  have n:=q.1
  cases v with
  |none=>exact r.fK k
  |bool b=>exact r.yi k
  |int i=>exact r.j9 λU=>k
  |str i=>exact r.Ir λU=>k
  |bytes l=>exact r.P8 λU U U=>k
  |_=>exact lP n) aj aR
theorem ajc (ok:D.Ok):(D.env.scope.kind==.class || (D.env.scope.kind==.module&&D.env.locals != D.env.globals))=false:=by rw[ok.kind];rfl
theorem amH (ok:D.Ok) (bI:D.env.kindOf x=some .local) (B:bz D φ J C s) (r:aZ φ s.heap aO v) (h:K (J.put x v) C):wpAny (cX D) D.A (storeName D.env x aO) (lN D φ C s K) dR s:=by
 obtain⟨m,bG,aI⟩:=B.loc
 refine wpAny_storeName_local bI bG (λbH C2 aR=>?_) (ajc ok)
 obtain⟨a,b⟩:=B.store ok bI r bG aI C2 aR (s.toks+1)
 exact⟨φ,_,C,b,a,h⟩
theorem amG (ok:D.Ok) (bI:D.env.kindOf x=some .cell) (aY:D.env.cells.lookup x=some a) (bD:a∈D.fr) (B:bz D φ J C s) (r:aZ φ s.heap aO v) (h:K (J.put x v) C):wpAny (cX D) D.A (storeName D.env x aO) (lN D φ C s K) dR s:=by
 obtain⟨iD,aN,-⟩:=B.l9 x a aY
 refine wpAny_storeName_cell ok.kind bI aY aN λbH Lj aR=>?_
 obtain⟨a,b⟩:=B.amF ok bI aY bD r Lj aR s.toks
 exact⟨φ,_,C,b,a,h⟩
def v8 (D:dU) (x:Str):Prop:=D.env.kindOf x=some .local\/(D.env.kindOf x=some .cell/\∃a,D.env.cells.lookup x=some a/\a∈D.fr)
theorem Wf {x:Str} (ok:D.Ok) (bI:v8 D x) (B:bz D φ J C s) (r:aZ φ s.heap aO v) (h:K (J.put x v) C):wpAny (cX D) D.A (storeName D.env x aO) (lN D φ C s K) dR s:=by
 rcases bI with bI|⟨bI,a,aY,bD⟩
 .exact amH ok bI B r h
 .exact amG ok bI aY bD B r h
theorem Py {x:Str} (ok:D.Ok) (bE:v8 D x) (h:K (J.put x v) C):nO D (.Name x p) v J C K:=λφ s aO B r=>
 wpAny_assign_Name (Wf ok bE B r h)
theorem Yn (h:K J C):sr D [] [] J C K:=λφ s eG B r=>by nomatch r;exact assignInOrder_nil ⟨φ,J,C,.refl,B,h⟩
theorem Ym {fq:List Expr} (cK:(assignEach (t::fq) D.env).map (·.2)=assign t D.env::(assignEach fq D.env).map (·.2)) (h:nO D t v J C λdQ aG=>sr D fq aa dQ aG K):sr D (t::fq) (v::aa) J C K:=λφ s eG B r=>by
 cases r with
 |cons r rs=>
  rw[cK]
  refine assignInOrder_cons (gi (h φ s _ B r) (λU br p=>p.k λb3 dQ aG l bQ q=>?_) λU U x=>x)
  exact gi (q b3 br _ bQ (B.Es l rs)) (λU U p=>p.after bQ l) λU U x=>x
theorem bz.extBut (h:bz D φ J C s) (k:Heap.ExtBut s.heap.objs.size s.heap g):∀b o,s.heap.get? b=some o->g.get? b=some o:=λb o e=>k b o (qG (tF e)) e
theorem aon (ok:D.Ok) (B:bz D φ J C s) (r:aZ φ s.heap aO (.tup aa)) (bG:aa.length=n)
  (h:∀eG br,fG φ br.heap eG aa->bz D φ J C br->eV D φ C s φ C br->Q eG br):wpAny (cX D) D.A (unpackItems aO n none) Q dR s:=by
 obtain⟨a,eu,k,rfl,e,rs⟩:=r.Em
 obtain rfl:n=eu.size:=by rw[<-bG,<-rs.len];simp
 refine unpackItems_tuple ok.room.1 ⟨_,e,rfl,k,rfl⟩ λbH cK=>?_
 have k:=B.extBut cK
 exact h _ _ (rs.mono λU U y=>y.mono (λU U e=>e) λb o e U=>k b o e) (B.ext k s.toks ok) (.ext k s.toks)
theorem Yh (ok:D.Ok) (bG:(assignEach fq D.env).length=aa.length) (aeL:(assignEach fq D.env).findIdx? (·.1)=none) (h:sr D fq aa J C K):nO D (.Tuple fq k p) (.tup aa) J C K:=λφ s aO B r=>by
 obtain⟨a,eu,n,rfl,e,rs⟩:=r.Em
 refine assign_Tuple_tuple ok.room.1 ⟨_,e,rfl,n,rfl⟩ (by rw[bG,<-rs.len];simp) aeL λbH cK=>?_
 have k:=B.extBut cK
 exact gi (h φ _ _ (B.ext k s.toks ok) (rs.mono λU U y=>y.mono (λU U e=>e) λb o e U=>k b o e)) (λU U p=>p.after (B.ext k s.toks ok) (.ext k s.toks)) λU U x=>x
theorem ac2 {p:Pos} (aR:swapsWithSole [t] e p.line D.env=pure false) (eL:swappedStores [t] e D.env=pure none) (bY:(assignEach [t] D.env).map (·.2)=[assign t D.env]) (h:dW D e J C λv aG=>nO D t v J aG dI):bF D (.Assign [t] e p) J C dI gZ:=λφ s B=>by
 refine wpAny_Assign_stores (h.step B λaO v b3 br aG r bQ l q=>?_) aR eL
 rw[bY]
 exact gi (q b3 br aO bQ r) (λU jC p=>(p.after bQ l).k λcg cz aT fX bU q=>⟨cg,cz,aT,fX,bU,q⟩) λU U x=>x
noncomputable def Bc:List Str->List I->aL->aL
 |x::xs,v::aa,J=>Bc xs aa (J.put x v)
 |_,_,J=>J
theorem amI (ok:D.Ok) (names):∀(aa:List I) {J:aL} eG {φ:dG} {s:Shared},(∀x∈names,v8 D x)->names.length=aa.length->bz D φ J C s->fG φ s.heap eG aa->K (Bc names aa J) C->
  wpAny (cX D) D.A (assignInOrder (names.map λn=>bindName D.env n) eG) (lN D φ C s K) dR s:=by
 induction names with
 |nil=>
  intro aa J eG φ s _ len B r h
  induction aa with
  |nil=>nomatch r;exact assignInOrder_nil ⟨φ,J,C,.refl,B,h⟩
  |cons _ _=>simp at len
 |cons x xs ih=>
  intro aa J eG φ s l8 len B r h
  cases aa with
  |nil=>simp at len
  |cons v aa=>
   cases r with
   |cons r rs=>
    refine assignInOrder_cons (bindName_ (gi (Wf (K:=λcz aT=>cz=J.put x v/\aT=C) ok (l8 x jH) B r ⟨rfl,rfl⟩) (λU br p=>?_) λU U x=>x))
    obtain⟨b3,dQ,aG,l,bQ,bk,bK⟩:=p
    rw[bk,bK]at bQ;rw[bK]at l
    exact gi (ih aa _ (λy cM=>l8 y (i9 _ cM)) (by simpa using len) bQ (B.Es l rs) h) (λU U p=>p.after bQ l) λU U x=>x
theorem ac3 {fq:List Expr} {k:Nat} (ok:D.Ok) (aR:swapsWithSole [.Tuple fq k q] e p.line D.env=pure false) (eL:swappedStores [.Tuple fq k q] e D.env=pure (some names))
  (h:dW D e J C λv aG=>∃aa,v=.tup aa/\aa.length=names.length/\(∀x∈names,v8 D x)/\dI (Bc names.reverse aa.reverse J) aG):bF D (.Assign [.Tuple fq k q] e p) J C dI gZ:=λφ s B=>
 Assign_Tuple_swapped (h.step B λaO v b3 br aG r bQ l q=>by
  obtain⟨aa,rfl,len,l8,q⟩:=q
  refine aon ok bQ r len λeG jC rs fh gp=>?_
  exact gi (amI ok names.reverse aa.reverse _ (λx bE=>l8 x (List.mem_reverse.mp bE)) (by simp[len]) fh rs.rev q) (λU qz p=>((p.after fh gp).after bQ l).k λcg cz aT fX bU q=>⟨cg,cz,aT,fX,bU,q⟩) λU U x=>x) aR eL
end
noncomputable def afw:List Addr:=[3,92,93,102,103,141,142,148,149,172,173,183,184,190,191,197,198,204,205,234,240,241,247,248,254,255,278,279,289,290,303,304,310,311,366,367,373,374,380,381,387,388,394,395,401,402,408,409,422,423,431,437,438,451,452,500,501,514,515,524,525,535,536,549,550,556,557,563,564,570,571,577,578,584,585,591,592,598,599,605,606,612,613,619,620,626,627,633,634,640,641,647,648,792,793,813,814,841,842,848,849,855,856,862,863,890,891,897,898,904,905,911,912,918,919,925,926,930,931,937,938,944,945,951,952,958,959,965,966,1021,1022,1035,1036,1056,1057,1070,1071,1077,1078,1091,1092,1098,1099,1105,1106,1112,1113,1122,1123,1140,1141,1147,1148,1154,1155,1178,1179,1191,1192,1198,1199,1205,1206,1212,1213,1219,1220,1226,1227,1229,1230,1242,1243,1247,1248,1261,1262,1268,1269,1271,1272,1282,1283,1289,1290,1296,1297,1301,1302,1308,1309,1315,1316,1322,1323,1329,1330,1336,1337,1343,1344,1350,1351,1355,1356,1360,1361,1367,1368,1372,1373,1379,1380,1384,1385]
noncomputable def gb (P:Params):Frag:=DE afw 0 (wL P)
noncomputable def vp (P:Params) (a:Addr):Obj:=((gb P).lookup a).getD {cls:=.none}
theorem rY [BEq b9] [LawfulBEq b9] {l:List (b9×ef)} (h:l.lookup a=some b):(a,b)∈l:=by
 induction l with
 |nil=>nomatch h
 |cons p l ih=>
  obtain⟨x,y⟩:=p
  rw[List.lookup_cons]at h
  cases q:a==x with
  |true=>rw[q]at h;nomatch h;rw[beq_iff_eq.mp q];exact jH
  |false=>rw[q]at h;exact i9 _ (ih h)
theorem agu (P:Params):(gb P).all (λp=>Nat.blt p.1 1386&&!p.2.isFreed&&!sR p.2)=true:=by kernel_rfl
theorem LY (P:Params) (a) (o:Obj) (e:(gb P).lookup a=some o):(gR P).get? a=some o/\sR o=false:=by
 have m:=rY e
 have h:=List.all_eq_true.mp (agu P) _ m
 rw[gI,gI]at h
 exact⟨Ld (by simpa using (MZ _ _ _ m).2) (Nat.blt_eq.mp h.1.1) (by simpa using h.1.2),by simpa using h.2⟩
theorem S9 (P:Params):(gb P).In (gR P):=λa o e=>(LY P a o e).1
theorem dU.Ok.au {D:dU} (ok:D.Ok):(gb D.w.params).In D.jy:=λa o e=>ok.base a o (LY _ a o e).1 (LY _ a o e).2
theorem bz.au {D:dU} (B:bz D φ J C s) (ok:D.Ok):(gb D.w.params).In s.heap:=ok.au.keeps B.keep
noncomputable def iA:List (Addr×ni):=[(93,cU 6 0),(142,cU 8 0),(149,cU 8 1),(184,aA 21),(191,aA 22),(198,aA 23),(205,aA 24),(241,cU 35 0),(248,cU 35 1),(255,cU 35 2),(290,aA 39),(304,aA 41),(311,aA 42),(367,aA 51),(374,aA 52),(381,aA 53),(388,aA 54),(395,aA 55),(402,aA 56),(409,aA 57),(423,aA 59),(438,aA 63),(452,aA 65),(501,aA 72),(515,cU 74 0),(536,aA 75),(550,aA 77),(557,aA 79),(564,aA 80),(571,aA 81),(578,aA 82),(585,aA 83),(592,aA 84),(599,aA 85),(606,aA 86),(613,aA 87),(620,aA 88),(627,aA 89),(634,aA 90),(641,aA 91),(648,aA 92),(793,aA 115),(814,aA 118),(842,aA 122),(849,aA 124),(856,aA 125),(863,aA 126),(891,aA 130),(898,aA 131),(905,aA 132),(912,aA 133),(919,aA 134),(926,aA 135),(931,aA 136),(938,aA 137),(945,aA 138),(952,aA 140),(959,aA 145),(966,aA 146),(1022,aA 154),(1036,aA 156),(1057,aA 159),(1071,aA 161),(1078,aA 163),(1092,cU 166 0),(1099,cU 166 1),(1106,cU 166 2),(1113,cU 166 3),(1141,cU 168 0),(1148,cU 168 1),(1155,cU 168 2),(1199,cU 169 0),(1206,cU 169 1),(1213,cU 169 2),(1220,cU 169 3),(1227,cU 169 4),(1248,cU 171 0),(1262,cU 171 2),(1269,cU 171 3),(1283,aA 173),(1290,aA 174),(1297,aA 175),(1302,aA 176),(1309,aA 177),(1316,aA 178),(1323,aA 179),(1330,aA 180),(1337,aA 181),(1344,aA 182),(1351,aA 183),(1356,aA 184),(1361,aA 185),(1368,aA 186),(1373,aA 187),(1380,aA 188),(1385,aA 189)]
noncomputable def H8 (o:Obj):Value:=match o.data with| .func fd=>fd.pyModule|_=>.none
noncomputable def CD (o:Obj):Value:=match o.data with| .func fd=>fd.defaults|_=>.none
theorem ady (P:Params):(iA.map λp=>(gb P).lookup p.1)=iA.map λp=>some (Ca p.2 (H8 (vp P p.1)) (.ref (p.1 -1)) (CD (vp P p.1))):=by kernel_rfl
theorem adx (P:Params):(iA.map λp=>codeIn (gb P) (.ref (p.1 -1)) p.2.qual)=iA.map λU=>true:=by kernel_rfl
theorem y_ {l:List b9} (h:l.map f=l.map g) {i:Nat} (e:l[i]?=some a):f a=g a:=by
 have:=cJ (·[i]?) h
 simpa[e]using this
theorem adw (P:Params) (i:Nat) (e:iA[i]?=some (a,f)):(gb P).lookup a=some (Ca f (H8 (vp P a)) (.ref (a -1)) (CD (vp P a)))/\codeIn (gb P) (.ref (a -1)) f.qual=true:=
 ⟨y_ (ady P) e,y_ (adx P) e⟩
noncomputable def bR (x:Str) (v:I):Str×I:=(x,v)
noncomputable def Gr:List (Str×I):=[bR "BEHIND_PUSHES" (.int 192),bR "CALL" (.int 43),bR "EIF" (.int 89),bR "ELSE" (.int 27),bR "ENDF" (.int 45),bR "FDEF" (.int 44),bR "FIRST_PUSHB" (.int 176),bR "FIRST_PUSHW" (.int 184),bR "Functions" (.at 103),bR "GraphicsState" (.at 1123),bR "HintFault" (.at 44),bR "HintStack" (.at 1179),bR "HintWork" (.at 1230),bR "IDEF" (.int 137),bR "IF" (.int 88),bR "JMPR" (.int 28),bR "JROF" (.int 121),bR "JROT" (.int 120),bR "LEAST_DOT" (.int 1024),bR "LOOPCALL" (.int 42),bR "LimitFault" (.at 56),bR "MOST_CALLS" (.int 32),bR "MOST_LOOP" (.int 65535),bR "Machine" (.at 279),bR "NOUGHT" (.tup [.int 0,.int 0]),bR "NPUSHB" (.int 64),bR "NPUSHW" (.int 65),bR "ONE14" (.int 16384),bR "Place" (.at 173),bR "Rounding" (.at 525),bR "Zone" (.at 1272),bR "_law_at_least" (.at 1323),bR "_law_between" (.at 1351),bR "_law_distance" (.at 1344),bR "_law_draw_all" (.at 1361),bR "_law_drawn" (.at 1356),bR "_law_gap" (.at 1337),bR "_law_go" (.at 1330),bR "_law_many" (.at 1368),bR "_law_moves" (.at 1373),bR "_law_near" (.at 1309),bR "_law_one" (.at 1297),bR "_law_others" (.at 1380),bR "_law_pool" (.at 1283),bR "_law_push" (.at 1302),bR "_law_rounded" (.at 1316),bR "_law_take" (.at 1290),bR "all_ops" (.at 1078),bR "along_freedom" (.at 423),bR "anchor_of" (.at 606),bR "axis_of" (.at 959),bR "bounds_of" (.at 863),bR "delta_of" (.at 814),bR "do_alignpts" (.at 473),bR "do_alignrp" (.at 634),bR "do_axes" (.at 966),bR "do_cindex" (.at 690),bR "do_clear" (.at 669),bR "do_compare" (.at 723),bR "do_deltac" (.at 821),bR "do_deltap" (.at 898),bR "do_depth" (.at 683),bR "do_distance" (.at 1043),bR "do_dual_line" (.at 994),bR "do_dup" (.at 655),bR "do_flip" (.at 1050),bR "do_flip_row" (.at 494),bR "do_flippt" (.at 487),bR "do_free_as_projection" (.at 1015),bR "do_from_stack" (.at 1001),bR "do_gc" (.at 438),bR "do_getinfo" (.at 835),bR "do_instctrl" (.at 709),bR "do_ip" (.at 641),bR "do_isect" (.at 466),bR "do_iup" (.at 938),bR "do_line" (.at 987),bR "do_loop" (.at 1036),bR "do_md" (.at 452),bR "do_mdap" (.at 585),bR "do_mdrp" (.at 613),bR "do_miap" (.at 592),bR "do_mindex" (.at 695),bR "do_mirp" (.at 620),bR "do_msirp" (.at 627),bR "do_not" (.at 730),bR "do_nothing" (.at 772),bR "do_odd" (.at 737),bR "do_one" (.at 758),bR "do_point" (.at 1022),bR "do_pop" (.at 662),bR "do_rcvt" (.at 807),bR "do_roll" (.at 702),bR "do_round" (.at 765),bR "do_rounding" (.at 1057),bR "do_rs" (.at 786),bR "do_scfs" (.at 445),bR "do_shc" (.at 877),bR "do_shp" (.at 856),bR "do_shpix" (.at 891),bR "do_shz" (.at 884),bR "do_size" (.at 828),bR "do_super" (.at 1064),bR "do_swap" (.at 676),bR "do_tell" (.at 1008),bR "do_two" (.at 751),bR "do_utp" (.at 480),bR "do_wcvtf" (.at 800),bR "do_wcvtp" (.at 793),bR "do_ws" (.at 779),bR "do_zone" (.at 1029),bR "dot14" (.at 311),bR "draw_between" (.at 926),bR "draw_contour" (.at 931),bR "drawn_place" (.at 905),bR "dual_measured" (.at 374),bR "is_push" (.at 191),bR "kept_apart" (.at 571),bR "mark_ops" (.at 501),bR "measured" (.at 367),bR "move_original" (.at 416),bR "move_point" (.at 409),bR "mul14" (.at 304),bR "muldiv" (.at 290),bR "named" (.at 536),bR "octet_at" (.at 184),bR "of_single_width" (.at 578),bR "pair_of" (.at 919),bR "place_of" (.at 381),bR "point_ops" (.at 952),bR "push_shape" (.at 198),bR "pushed" (.at 205),bR "put_both" (.at 430),bR "put_part" (.at 912),bR "refer" (.at 599),bR "reference" (.at 849),bR "relation_ops" (.at 648),bR "rounded" (.at 550),bR "shift_ops" (.at 945),bR "shifted" (.at 402),bR "signed_like" (.at 564),bR "size_of" (.at 557),bR "stack_ops" (.at 842),bR "step_of" (.at 395),bR "touch" (.at 388),bR "vector_ops" (.at 1071)]
noncomputable def Fl:List (Str×I):=[bR "abs" (.bi "abs"),bR "bytes" (.type "bytes"),bR "dict" (.type "dict"),bR "int" (.type "int"),bR "len" (.bi "len"),bR "list" (.type "list"),bR "max" (.bi "max"),bR "min" (.bi "min"),bR "range" (.type "range"),bR "str" (.type "str"),bR "tuple" (.type "tuple")]
noncomputable def SH:∀l aa,Option (PLift (∀φ h,fG φ h l aa))
 |[],[]=>some ⟨λU U=>.nil⟩
 | .int i t::l,.int j::aa=>if e:i=j then(SH l aa).map λp=>⟨λφ h=>.cons (e▸.int i t) (p.down φ h)⟩else none
 |_,_=>none
noncomputable def aob (l):∀o:Obj,Option (PLift (∀φ h a,h.get? a=some o->aZ φ h (.ref a) (.tup l)))
 |⟨.type n,none,.seq eu k,mz⟩=>if e:n="tuple"/\mz.isEmpty=true then(SH eu.toList l).map λp=>⟨λφ h a q=>.Oh (n:=k) (q.trans (by rw[e.1,Array.isEmpty_iff.mp e.2])) (p.down φ h)⟩else none
 |_=>none
noncomputable def Er (K:Frag):∀aO v,Option (PLift (∀φ h,K.In h->aZ φ h aO v))
 | .int i t,.int j=>if e:i=j then some ⟨λU U U=>e▸.int i t⟩else none
 | .none,.none=>some ⟨λU U U=>.none⟩
 | .ref a,.at b=>if e:a=b then some ⟨λU U U=>e▸.at a⟩else none
 | .type n,.type k=>if e:n=k then some ⟨λU U U=>e▸.type n⟩else none
 | .builtin n,.bi k=>if e:n=k then some ⟨λU U U=>e▸.bi n⟩else none
 | .ref a,.tup l=>match q:K.lookup a with
  |some o=>(aob l o).map λp=>⟨λφ h D=>p.down φ h a (D a o q)⟩
  |none=>none
 |_,_=>none
theorem WU {K:Frag} (h:(Er K aO v).isSome=true):∀φ h,K.In h->aZ φ h aO v:=(Option.get _ h).down
noncomputable def s9 (f:Value->Bool):Option (Option Value)->Bool
 |some (some v)=>f v
 |_=>false
noncomputable def U1:Option (Option Value)->Bool
 |some none=>true
 |_=>false
theorem U2 {f:Value->Bool} {P:Prop} (h:s9 f o=true) (k:∀v,o=some (some v)->f v=true->P):P:=by
 rcases o with _|_|v
 .exact lP h
 .exact lP h
 .exact k v rfl h
theorem ajZ {P:Prop} (h:U1 o=true) (k:o=some none->P):P:=by
 rcases o with _|_|v
 .exact lP h
 .exact k rfl
 .exact lP h
noncomputable def adP (P:Params) (p:Str×I):Bool:=s9 (λv=>(Er (gb P) v p.2).isSome) (nsIn (gb P) mainGlobals p.1)
noncomputable def PF (P:Params) (p:Str×I):Bool:=U1 (nsIn (gb P) mainGlobals p.1)&&s9 (λv=>(Er (gb P) v p.2).isSome) (some (bootBuiltins p.1))&&decide (p.1≠"__name__")
theorem adQ (P:Params):Gr.map (adP P)=Gr.map λU=>true:=by kernel_rfl
theorem ZX (P:Params):Fl.map (PF P)=Fl.map λU=>true:=by kernel_rfl
theorem R1 {D:dU} (ok:D.Ok) (h:(Er (gb D.w.params) aO v).isSome=true):O5 D aO v:=λφ g k=>WU h φ g (ok.au.keeps k)
theorem adX (ok:D.Ok) (i:Nat) (e:Gr[i]?=some (x,v)):E5 D x v:=
 U2 (y_ (adQ D.w.params) e) λaO q h=>⟨aO,.inl (mg_of ok.au ok.g q),R1 ok h⟩
theorem adW (ok:D.Ok) (i:Nat) (e:Fl[i]?=some (x,v)):E5 D x v:=by
 have h:=y_ (ZX D.w.params) e
 unfold PF at h
 rw[gI,gI]at h
 exact ajZ h.1.1 λq=>U2 h.1.2 λaO iM aE=>⟨aO,.inr ⟨mg_none_of ok.au ok.g q,kJ h.2,iH iM⟩,R1 ok aE⟩
noncomputable abbrev aD (b9):=bL->Option (b9×bL)
section
noncomputable def ai (a:b9):aD b9:=λC=>some (a,C)
noncomputable def Y (m:aD b9) (f:b9->aD ef):aD ef:=λC=>match m C with
 |some (a,aT)=>f a aT
 |none=>none
noncomputable def no:aD b9:=λU=>none
noncomputable def gU (o:Option b9):aD b9:=match o with
 |some a=>ai a
 |none=>no
noncomputable def obj (r:ay):aD cw:=λC=>match C.h r with
 |some o=>some (o,C)
 |none=>none
noncomputable def new (p:ay) (o:cw):aD I:=λC=>some (.ref (C.k::p),⟨C.h.set (C.k::p) o,C.k+1⟩)
noncomputable def upd (r:ay) (o:cw):aD Unit:=λC=>some ((),⟨C.h.set r o,C.k⟩)
noncomputable def sub (p:ay) (m:ay->aD b9):aD b9:=λC=>match m (C.k::p) ⟨C.h,0⟩with
 |some (v,aT)=>some (v,⟨aT.h,C.k+1⟩)
 |none=>none
noncomputable def jt (q:ay) (h bH:bl):bl:=λr=>if q.isSuffixOf r then h r else bH r
noncomputable def Iu (p:ay) (m:ay->aD b9):aD b9:=λC=>match m (C.k::p) ⟨C.h,0⟩with
 |some (v,aT)=>some (v,⟨jt (C.k::p) C.h aT.h,C.k+1⟩)
 |none=>none
end
noncomputable def vg:Int->Bool
 | .ofNat n=>Nat.ble n 99999
 | .negSucc _=>false
noncomputable def k8:Int->Bool
 | .ofNat n=>Nat.ble n 999999
 | .negSucc n=>Nat.ble n 999998
theorem Hj (i):vg i=true↔0<=i/\i<100000:=by
 nomatch i<;>simp[vg,Nat.ble_eq]<;>omega
theorem LC (i):k8 i=true↔-1000000<i/\i<1000000:=by
 nomatch i<;>simp[k8,Nat.ble_eq]<;>omega
noncomputable def mV (a b:Int):Bool:=(decide (-(2^64)<a)&&decide (a<2^64)) || (decide (-(2^64)<b)&&decide (b<2^64))
noncomputable def jb (f:List I->aD b9):cw->aD b9
 | .list xs=>f xs
 |_=>no
inductive qK:Operator->I->I->Type
 |add a b:qK .Add (.int a) (.int b)|sub a b:qK .Sub (.int a) (.int b)|mul a b:qK .Mult (.int a) (.int b)|fdiv a b:qK .FloorDiv (.int a) (.int b)|mod a b:qK .Mod (.int a) (.int b)
 |pow a b:qK .Pow (.int a) (.int b)|X5 a b:qK .Add (.bytes a) (.bytes b)|X6 a b:qK .Add (.ref a) (.ref b)|rep a n:qK .Mult (.ref a) (.int n)|no o a b:qK o a b
noncomputable def P5:∀o a b,qK o a b
 | .Add,.int a,.int b=>.add a b
 | .Sub,.int a,.int b=>.sub a b
 | .Mult,.int a,.int b=>.mul a b
 | .FloorDiv,.int a,.int b=>.fdiv a b
 | .Mod,.int a,.int b=>.mod a b
 | .Pow,.int a,.int b=>.pow a b
 | .Add,.bytes a,.bytes b=>.X5 a b
 | .Add,.ref a,.ref b=>.X6 a b
 | .Mult,.ref a,.int n=>.rep a n
 |o,a,b=>.no o a b
noncomputable def VB (p:ay) (n:Int):List I->aD I
 |[.bool c]=>if decide (0<=n)&&decide (n<=1000)then new p (.list (List.replicate n.toNat (.bool c)))else no
 |_=>no
noncomputable def P0 (p:ay) (w:qK o a b):aD I:=w.casesOn (motive:=λU U U U=>aD I)
  (λa b=>ai (.int (a+b)))
  (λa b=>ai (.int (a -b)))
  (λa b=>if mV a b then ai (.int (a*b))else no)
  (λa b=>if decide (b≠0)&&(decide (-1073741824<b)&&decide (b<1073741824))then ai (.int (a.fdiv b))else no)
  (λa b=>if decide (b≠0)then ai (.int (a.fmod b))else no)
  (λa b=>if decide (0<=b)&&decide ((Builtin.Int.intBits a:Int)*b<=2^27)then ai (.int (a^b.toNat))else no)
  (λa b=>if decide (a.length+b.length<=100000)then ai (.bytes (a++b))else no)
  (λa b=>Y (obj a) (jb λxs=>Y (obj b) (jb λjG=>if decide (xs.length+jG.length<=100000)then new p (.list (xs++jG))else no)))
  (λa n=>Y (obj a) (jb (VB p n)))
  (λU U U=>no)
noncomputable def fk (p:ay) (o:Operator) (a b:I):aD I:=P0 p (P5 o a b)
noncomputable def t7:I->Bool
 | .none=>true| .bool _=>true| .int _=>true| .str _=>true| .bytes _=>true|_=>false
noncomputable def fH:Nat->bl->I->Option PyData
 |_,_,.int i=>some (.int i)
 |_,_,.bool b=>some (.bool b)
 |n+1,h,.tup aa=>(kX (fH n h) aa).map .tuple
 |n+1,h,.ref r=>match h r with
  |some (.list aa)=>(kX (fH n h) aa).map .list
  |_=>none
 |_,_,_=>none
where
 kX (f:I->Option PyData):List I->Option (List PyData)
  |[]=>some []
  |v::aa=>match f v,kX f aa with
   |some d,some fZ=>some (d::fZ)
   |_,_=>none
noncomputable def tD (a b:I):aD Bool:=λC=>match fH 3 C.h a,fH 3 C.h b with
 |some d,some e=>some (PyData.eqv d e,C)
 |_,_=>none
noncomputable def sP:List I->Option (List Int)
 |[]=>some []
 | .int i::l=>(sP l).map (i::·)
 |_=>none
inductive mJ:CmpOp->I->I->Type
 |eq a b:mJ .Eq (.int a) (.int b)|ne a b:mJ .NotEq (.int a) (.int b)|lt a b:mJ .Lt (.int a) (.int b)|le a b:mJ .LtE (.int a) (.int b)|gt a b:mJ .Gt (.int a) (.int b)|ge a b:mJ .GtE (.int a) (.int b)
 |acj a b:mJ .Eq (.bool a) (.bool b)|aiZ a b:mJ .NotEq (.bool a) (.bool b)|is v:mJ .Is v .none|afk v:mJ .IsNot v .none|ack a b:mJ .Eq (.ref a) (.ref b)|ai2 a b:mJ .NotEq (.ref a) (.ref b)
 |afd i l:mJ .In (.int i) (.tup l)|ai8 i l:mJ .NotIn (.int i) (.tup l)|inD i a:mJ .In (.int i) (.ref a)|ai7 x a:mJ .NotIn (.str x) (.ref a)|no o a b:mJ o a b
noncomputable def QB:∀o a b,mJ o a b
 | .Eq,.int a,.int b=>.eq a b
 | .NotEq,.int a,.int b=>.ne a b
 | .Lt,.int a,.int b=>.lt a b
 | .LtE,.int a,.int b=>.le a b
 | .Gt,.int a,.int b=>.gt a b
 | .GtE,.int a,.int b=>.ge a b
 | .Eq,.bool a,.bool b=>.acj a b
 | .NotEq,.bool a,.bool b=>.aiZ a b
 | .Is,v,.none=>.is v
 | .IsNot,v,.none=>.afk v
 | .Eq,.ref a,.ref b=>.ack a b
 | .NotEq,.ref a,.ref b=>.ai2 a b
 | .In,.int i,.tup l=>.afd i l
 | .NotIn,.int i,.tup l=>.ai8 i l
 | .In,.int i,.ref a=>.inD i a
 | .NotIn,.str x,.ref a=>.ai7 x a
 |o,a,b=>.no o a b
noncomputable def afl:I->aD Bool
 | .none=>ai true
 | .int _=>ai false
 | .ref _=>ai false
 |_=>no
noncomputable def ajj:I->aD Bool
 | .none=>ai false
 | .int _=>ai true
 | .ref _=>ai true
 |_=>no
noncomputable def wg (f:List (Int×I)->aD b9):cw->aD b9
 | .cB l=>f l
 |_=>no
noncomputable def sF (f:List (Str×I)->aD b9):cw->aD b9
 | .jn l=>f l
 |_=>no
noncomputable def QC {o:CmpOp} {a b:I} (w:mJ o a b):aD Bool:=w.casesOn (motive:=λU U U U=>aD Bool)
  (λa b=>ai (decide (a=b)))
  (λa b=>ai (decide (a≠b)))
  (λa b=>ai (decide (a<b)))
  (λa b=>ai (decide (a<=b)))
  (λa b=>ai (decide (b<a)))
  (λa b=>ai (decide (b<=a)))
  (λa b=>ai (a==b))
  (λa b=>ai (!(a==b)))
  (λa=>afl a)
  (λa=>ajj a)
  (λa b=>tD (.ref a) (.ref b))
  (λa b=>Y (tD (.ref a) (.ref b)) λb=>ai (!b))
  (λi l=>Y (gU (sP l)) λns=>ai (ns.any (·==i)))
  (λi l=>Y (gU (sP l)) λns=>ai (!(ns.any (·==i))))
  (λi a=>Y (obj a) (wg λl=>ai (l.lookup i).isSome))
  (λx a=>Y (obj a) (sF λl=>ai (!(l.lookup x).isSome)))
  (λU U U=>no)
noncomputable def dX (o:CmpOp) (a b:I):aD Bool:=QC (QB o a b)
inductive tL:I->I->Type
 |VH a i:tL (.ref a) (.int i)|rs a x:tL (.ref a) (.str x)|k9 xs i:tL (.tup xs) (.int i)|bi l i:tL (.bytes l) (.int i)|no a b:tL a b
noncomputable def GQ:∀a b,tL a b
 | .ref a,.int i=>.VH a i
 | .ref a,.str x=>.rs a x
 | .tup xs,.int i=>.k9 xs i
 | .bytes l,.int i=>.bi l i
 |a,b=>.no a b
noncomputable def AR (i:Int):cw->aD I
 | .list xs=>if vg i then gU xs[i.toNat]? else no
 | .cB l=>gU (l.lookup i)
 | .k4 o=>if vg i then Y (gU (sJ o)) λl=>Y (gU l[i.toNat]?) λx=>ai (.int x)else no
 |_=>no
noncomputable def SN {a b:I} (w:tL a b):aD I:=w.casesOn (motive:=λU U U=>aD I)
  (λa i=>Y (obj a) (AR i))
  (λa x=>Y (obj a) (sF λl=>gU (l.lookup x)))
  (λxs i=>if vg i then gU xs[i.toNat]? else no)
  (λl i=>if decide (0<=i)&&decide (l.length<=100000)then Y (gU l[i.toNat]?) λb=>ai (.int b)else no)
  (λU U=>no)
noncomputable def item (a b:I):aD I:=SN (GQ a b)
noncomputable def g9 {K:Type} [BEq K]:List (K×I)->K->I->List (K×I)
 |[],k,v=>[(k,v)]
 |(j,u)::l,k,v=>if j==k then(j,v)::l else(j,u)::g9 l k v
noncomputable def D4 (a:ay) (i:Int) (v:I):cw->aD Unit
 | .list xs=>if decide (0<=i)&&decide (i<xs.length)&&decide (xs.length<=100000)then upd a (.list (xs.set i.toNat v))else no
 | .cB l=>if decide (l.length<1000)then upd a (.cB (g9 l i v))else no
 |_=>no
noncomputable def V0 (v:I) (w:tL a b):aD Unit:=w.casesOn (motive:=λU U U=>aD Unit)
  (λa i=>Y (obj a) (D4 a i v))
  (λa x=>Y (obj a) (sF λl=>if decide (l.length<1000)then upd a (.jn (g9 l x v))else no))
  (λU U=>no)
  (λU U=>no)
  (λU U=>no)
noncomputable def ju (a b v:I):aD Unit:=V0 v (GQ a b)
inductive v7:I->I->I->I->Type
 |PT l a b:v7 (.bytes l) (.int a) (.int b) .none|up r b:v7 (.ref r) .none (.int b) .none|fr r a:v7 (.ref r) (.int a) .none .none|B r s:v7 (.ref r) .none .none (.int s)|no v a b c:v7 v a b c
noncomputable def V6:∀v a b c,v7 v a b c
 | .bytes l,.int a,.int b,.none=>.PT l a b
 | .ref r,.none,.int b,.none=>.up r b
 | .ref r,.int a,.none,.none=>.fr r a
 | .ref r,.none,.none,.int s=>.B r s
 |v,a,b,c=>.no v a b c
noncomputable def V7 (p:ay) (w:v7 v a b c):aD I:=w.casesOn (motive:=λU U U U U=>aD I)
  (λl a b=>if decide (0<=a)&&decide (a<=b)&&decide (b<=l.length)&&decide (l.length<=100000)then ai (.bytes ((l.take b.toNat).drop a.toNat))else no)
  (λr b=>Y (obj r) (jb λxs=>if decide (0<=b)&&decide (b<=xs.length)&&decide (xs.length<=100000)then new p (.list (xs.take b.toNat))else no))
  (λr a=>Y (obj r) (jb λxs=>if decide (0<=a)&&decide (a<=xs.length)&&decide (xs.length<=100000)then new p (.list (xs.drop a.toNat))else no))
  (λr s=>Y (obj r) (jb λxs=>if decide (s=-1)&&decide (xs.length<=100000)then new p (.list xs.reverse)else no))
  (λU U U U=>no)
noncomputable def slice (p:ay) (v a b c:I):aD I:=V7 p (V6 v a b c)
noncomputable def xd:List I->Option (List Nat)
 |[]=>some []
 | .int i::l=>if decide (0<=i)&&decide (i<256)then(xd l).map (i.toNat::·)else none
 |_=>none
noncomputable def Be (a b:Int):List I:=(List.range (b -a).toNat).map λi:Nat=>.int (a+i)
inductive pI:String->List I->Type
 |len r:pI "len" [.ref r]|agW l:pI "len" [.bytes l]|abs i:pI "abs" [.int i]|min a b:pI "min" [.int a,.int b]|max a b:pI "max" [.int a,.int b]|aif r:pI "min" [.ref r]|ah3 r:pI "max" [.ref r]
 |app r v:pI "list.append" [.ref r,v]|pop r:pI "list.pop" [.ref r]|idx r i:pI "list.index" [.ref r,.int i]|upd r t:pI "dict.update" [.ref r,.ref t]|no f aa:pI f aa
noncomputable def PU:∀f aa,pI f aa
 |"len",[.ref r]=>.len r
 |"len",[.bytes l]=>.agW l
 |"abs",[.int i]=>.abs i
 |"min",[.int a,.int b]=>.min a b
 |"max",[.int a,.int b]=>.max a b
 |"min",[.ref r]=>.aif r
 |"max",[.ref r]=>.ah3 r
 |"list.append",[.ref r,v]=>.app r v
 |"list.pop",[.ref r]=>.pop r
 |"list.index",[.ref r,.int i]=>.idx r i
 |"dict.update",[.ref r,.ref t]=>.upd r t
 |f,aa=>.no f aa
noncomputable def Md:cw->aD I
 | .list xs=>if decide (xs.length<=100000)then ai (.int xs.length)else no
 | .k4 o=>Y (gU (sJ o)) λl=>if decide (l.length<=100000)then ai (.int l.length)else no
 |_=>no
noncomputable def Ut:List Int->aD I
 |i::l=>ai (.int (l.foldl (λa b=>if b<a then b else a) i))
 |[]=>no
noncomputable def Ug:List Int->aD I
 |i::l=>ai (.int (l.foldl (λa b=>if a<b then b else a) i))
 |[]=>no
noncomputable def P7 (p:ay) (w:pI f aa):aD I:=w.casesOn (motive:=λU U U=>aD I)
  (λr=>Y (obj r) Md)
  (λl=>if decide (l.length<=100000)then ai (.int l.length)else no)
  (λi=>ai (.int (if i<0 then -i else i)))
  (λa b=>ai (.int (if b<a then b else a)))
  (λa b=>ai (.int (if a<b then b else a)))
  (λr=>Y (obj r) (jb λxs=>Y (gU (sP xs)) Ut))
  (λr=>Y (obj r) (jb λxs=>Y (gU (sP xs)) Ug))
  (λr v=>Y (obj r) (jb λxs=>if decide (xs.length<100000)then Y (upd r (.list (xs++[v]))) λU=>ai .none else no))
  (λr=>Y (obj r) (jb λxs=>Y (gU xs.getLast?) λv=>if decide (xs.length<=100000)then Y (upd r (.list xs.dropLast)) λU=>ai v else no))
  (λr i=>Y (obj r) (jb λxs=>if decide (xs.length<=100000)then Y (gU (sP xs)) λns=>if decide (i∈ns)then ai (.int (ns.idxOf i:Nat))else no else no))
  (λr t=>Y (obj r) (wg λl=>Y (obj t) (wg λm=>if decide (r≠t)&&decide (l.length+m.length<1000)then Y (upd r (.cB (m.foldl (λa q=>g9 a q.1 q.2) l))) λU=>ai .none else no)))
  (λU U=>no)
noncomputable def builtin (p:ay) (f:String) (aa:List I):aD I:=P7 p (PU f aa)
inductive pK:String->List I->Type
 |int i:pK "int" [.int i]|ag5 r:pK "list" [.ref r]|ag6 xs:pK "list" [.tup xs]|ag2 l:pK "list" [.bytes l]|ag3 a b:pK "list" [.eo a b]|aoa xs:pK "tuple" [.tup xs]|an9 r:pK "tuple" [.ref r]
 |alF b:pK "range" [.int b]|zw a b:pK "range" [.int a,.int b]|aay r:pK "bytes" [.ref r]|uV r:pK "dict" [.ref r]|no f aa:pK f aa
noncomputable def UO:∀f aa,pK f aa
 |"int",[.int i]=>.int i
 |"list",[.ref r]=>.ag5 r
 |"list",[.tup xs]=>.ag6 xs
 |"list",[.bytes l]=>.ag2 l
 |"list",[.eo a b]=>.ag3 a b
 |"tuple",[.tup xs]=>.aoa xs
 |"tuple",[.ref r]=>.an9 r
 |"range",[.int b]=>.alF b
 |"range",[.int a,.int b]=>.zw a b
 |"bytes",[.ref r]=>.aay r
 |"dict",[.ref r]=>.uV r
 |f,aa=>.no f aa
noncomputable def UI (p:ay) (w:pK t aa):aD I:=w.casesOn (motive:=λU U U=>aD I)
  (λi=>ai (.int i))
  (λr=>Y (obj r) (jb λxs=>if decide (xs.length<=100000)then new p (.list xs)else no))
  (λxs=>if decide (xs.length<=100000)then new p (.list xs)else no)
  (λl=>if decide (l.length<=100000)then new p (.list (l.map λb:Nat=>.int b))else no)
  (λa b=>if decide (b -a<=1000)&&(k8 a&&k8 b)then new p (.list (Be a b))else no)
  (λxs=>ai (.tup xs))
  (λr=>Y (obj r) (jb λxs=>if decide (xs.length<=100000)then ai (.tup xs)else no))
  (λb=>if k8 b then ai (.eo 0 b)else no)
  (λa b=>if k8 a&&k8 b then ai (.eo a b)else no)
  (λr=>Y (obj r) (jb λxs=>if decide (xs.length<=100000)then Y (gU (xd xs)) λl=>ai (.bytes l)else no))
  (λr=>Y (obj r) (wg λl=>if decide (l.length<1000)then new p (.cB l)else no))
  (λU U=>no)
noncomputable def jk (p:ay) (t:String) (aa:List I):aD I:=UI p (UO t aa)
structure Jt where
 init:Addr
 meths:List (Str×Addr)
noncomputable def qp (x:Str) (a:Addr):Str×Addr:=(x,a)
noncomputable def jc:List (Addr×Jt):=[(173,⟨142,[qp "is_over" 149]⟩),(279,⟨241,[qp "run" 248,qp "step" 255]⟩),(103,⟨93,[]⟩),(525,⟨515,[]⟩),(1123,⟨1092,[qp "free_dot" 1099,qp "projected" 1106,qp "dual_projected" 1113]⟩),
 (1179,⟨1141,[qp "push" 1148,qp "pop" 1155]⟩),(1230,⟨1199,[qp "zone" 1206,qp "cvt_value" 1213,qp "put_cvt" 1220,qp "next_loop" 1227]⟩),(1272,⟨1248,[qp "check" 1262,qp "put" 1269]⟩)]
noncomputable def keeps:List Addr:=[142,241,93,515,1092,1141,1199,1248,536,1057,205,501,648,842,945,952,1071,1078,1283,1344,1373,1380,1385,255,248]
noncomputable def sQ (a:Addr):Bool:=keeps.any (·==a)
noncomputable def Fj:List Str:=List.map Str.ofString ["message","functions","instructions","code","at","calls","most_calls","place","work","ops","most_steps","steps","period","phase","threshold","freedom","projection","dual","rp0","rp1","rp2","zp0","zp1","zp2","loop",
 "minimum","cut_in","single_cut_in","single_width","delta_base","delta_shift","auto_flip","rounding","most","numbers","state","stack","zones","cvt","storage","ppem","point_size","scale","original","current","touched","ends","on_curve"]
noncomputable def pO (x:Str):Bool:=Fj.any (·==x)
noncomputable def t4:I->Bool| .bi _=>false| .undef=>false|_=>true
noncomputable def q2 (aH:Addr):Bool:=(jc.lookup aH).isSome
noncomputable def fB (v:I) (x:Str):aD I:=if pO x then match v with
  | .ref r=>Y (obj r) λ
   | .inst aH d=>Y (obj d) λ
    | .attrs l=>if q2 aH then Y (gU (l.lookup x)) λu=>if t4 u then ai u else no else no
    |_=>no
   |_=>no
  |_=>no
 else no
noncomputable def lT (v:I) (x:Str) (u:I):aD Unit:=if pO x then match v with
  | .ref r=>Y (obj r) λ
   | .inst aH d=>Y (obj d) λ
    | .attrs l=>if q2 aH&&decide (l.length<100)then upd d (.attrs (g9 l x u))else no
    |_=>no
   |_=>no
  |_=>no
 else no
noncomputable def i0 (v:I) (x:Str):aD I:=match v with
 | .ref r=>Y (obj r) λ
  | .inst aH d=>Y (obj d) λ
   | .attrs l=>if(l.lookup x).isNone then Y (gU (jc.lookup aH)) λc=>Y (gU (c.meths.lookup x)) λa=>ai (.at a)else no
   |_=>no
  | .list _=>if x=="append" then ai (.bi "list.append")else if x=="pop" then ai (.bi "list.pop")else if x=="index" then ai (.bi "list.index")else no
  | .cB _=>if x=="update" then ai (.bi "dict.update")else no
  |_=>no
 |_=>no
noncomputable def fz (L:ay->Addr->List I->aD I) (p:ay) (f:I) (aa:List I):aD I:=match f with
 | .at a=>match jc.lookup a with
  |some c=>Y (new p (.attrs [])) λd=>match d with
   | .ref d=>Y (new p (.inst a d)) λr=>Y (L p c.init (r::aa)) λu=>match u with
    | .none=>ai r
    |_=>no
   |_=>no
  |none=>L p a aa
 | .type t=>jk p t aa
 | .bi t=>builtin p t aa
 |_=>no
noncomputable def globals:List (Str×I):=Gr++Fl
noncomputable def Ax:Str:="__debug__"
noncomputable def Am:Str:="__classdict__"
noncomputable def Ep (sc:Scope) (J:aL) (x:Str):aD I:=if x==Ax || x==Am then no else
 match sc.names.lookup x with
 |some .globalImplicit=>gU (globals.lookup x)
 |some .globalExplicit=>no
 |some _=>match J.lookup x with
  |some .undef=>no
  |some v=>ai v
  |none=>no
 |none=>no
noncomputable def truth:I->aD Bool:=λv=>gU (xD v)
noncomputable def g8 (v:I) (i:Nat):aD (Option I):=match v with
 | .eo a b=>ai (if decide (a+i<b)then some (.int (a+i))else none)
 | .tup xs=>ai xs[i]?
 | .ref r=>Y (obj r) λ
  | .list xs=>ai xs[i]?
  |_=>no
 |_=>no
noncomputable def jP:I->aD Unit
 | .eo a b=>if k8 a&&k8 b then ai ()else no
 | .tup _=>ai ()
 | .ref r=>Y (obj r) λ
  | .list xs=>ai ()
  |_=>no
 |_=>no
inductive Pd:Option Expr->Str->Prop|mk (x:Str) (a:Nat) (b:Pos):Pd (some (.Constant (.str x) a b)) x
inductive O6:Option Expr->Int->Prop|mk (x:Int) (a:Nat) (b:Pos):O6 (some (.Constant (.int x) a b)) x
noncomputable def al9:∀y,Option {x//Pd y x}
 |some (.Constant (.str x) a b)=>some ⟨x,.mk x a b⟩
 |_=>none
noncomputable def ae9:∀y,Option {x//O6 y x}
 |some (.Constant (.int x) a b)=>some ⟨x,.mk x a b⟩
 |_=>none
noncomputable def zI:List (Option Expr)->Option (List Str)
 |[]=>some []
 |y::l=>(al9 y).bind λx=>(zI l).map (x.1::·)
noncomputable def yP:List (Option Expr)->Option (List Int)
 |[]=>some []
 |y::l=>(ae9 y).bind λx=>(yP l).map (x.1::·)
noncomputable def wA (sc:Scope) (J:aL):aL:=sc.names.filterMap λx=>match x.2 with
 | .local=>some (x.1,.undef)
 | .free=>(J.lookup x.1).map λv=>(x.1,v)
 |_=>none
noncomputable def qY (sc:Scope) (eW:List (Str×I)):aL:=sc.names.filterMap λx=>match x.2 with
 | .local=>some (x.1,(eW.lookup x.1).getD .undef)
 | .cell=>some (x.1,(eW.lookup x.1).getD .undef)
 |_=>none
noncomputable def kq (sc U_:Scope):Scope:={sc with names:=sc.names.map λ(n,k)=>if(k==.free&&U_.kind==.function&&U_.names.lookup n==some .cell)then(n,.cell)else(n,k)}
noncomputable def yq (eB sc:Scope) (x:Str):Bool:=eB.kind==.function&&eB.names.all (λy=>y.2 != .cell)&&eB.names.lookup x==some .local&&eB.names.all (λy=>y.2 != .local || eB.names.lookup y.1==some .local)&&
 eB.names.all (λy=>y.2 != .free || (eB.names.lookup y.1==some .free&&(sc.names.lookup y.1==some .cell || sc.names.lookup y.1==some .free)))
noncomputable def rU (k:Nat) (e:Expr):Bool:=Nat.beq e.ctorIdx k
noncomputable def zf (e:Expr):Bool:=!rU 7 e
noncomputable def xE (gv:Expr->aL->aD Bool) (ifs:List Expr):aL->aD Bool:=λJ=>match ifs with
 |[]=>ai true
 |[c]=>gv c J
 |_=>no
noncomputable def rO (kh:aL->aD Bool) (ek:aL->aD I) (x:Str) (it:I) (eg:ay) (J:aL):Nat->Nat->aD Unit
 |0,_=>no
 |n+1,i=>Y (g8 it i) λ
  |none=>ai ()
  |some v=>Y (kh (J.put x v)) λt=>
   Y (if t then Y (ek (J.put x v)) λu=>Y (obj eg) λ
    | .list b5=>if decide (b5.length<100000)then upd eg (.list (b5++[u]))else no
    |_=>no
    else ai ()) λU=>rO kh ek x it eg (J.put x v) n (i+1)
noncomputable def Yc:Expr->Bool
 | .Call _ [] _ _=>false
 |_=>true
noncomputable def yg (e:Expr):Bool:=Yc e
inductive kj:Expr->Type
 |int i a b:kj (.Constant (.int i) a b)|str i a b:kj (.Constant (.str i) a b)|bool i a b:kj (.Constant (.bool i) a b)|none a b:kj (.Constant .none a b)|bytes i a b:kj (.Constant (.bytes i) a b)
 |name x a:kj (.Name x a)|bin l o r a:kj (.BinOp l o r a)|neg e a:kj (.UnaryOp .USub e a)|and a b q:kj (.BoolOp .And [a,b] q)|or a b q:kj (.BoolOp .Or [a,b] q)|GN c a b q:kj (.IfExp c a b q)
 |cmp l o r q:kj (.Compare l [o] [r] q)|uU l lA kR gq gW q:kj (.Compare l [lA,kR] [gq,gW] q)|Hx o x a cS q:kj (.Call (.Attribute o x a) cS [] q)|call f cS q:kj (.Call f cS [] q)|attr o x q:kj (.Attribute o x q)
 |slice o a b c q xt:kj (.Subscript o (.Slice a b c q) xt)|item o i q:kj (.Subscript o i q)|list ao q:kj (.List ao q)|tup ao k q:kj (.Tuple ao k q)|dict dm ao q:kj (.Dict dm ao q)
 |comp e j7 sc q:kj (.ListComp e j7 sc q)|no e:kj e
noncomputable def CG:∀e,kj e
 | .Constant (.int i) a b=>.int i a b
 | .Constant (.str i) a b=>.str i a b
 | .Constant (.bool i) a b=>.bool i a b
 | .Constant .none a b=>.none a b
 | .Constant (.bytes i) a b=>.bytes i a b
 | .Name x a=>.name x a
 | .BinOp l o r a=>.bin l o r a
 | .UnaryOp .USub e a=>.neg e a
 | .BoolOp .And [a,b] q=>.and a b q
 | .BoolOp .Or [a,b] q=>.or a b q
 | .IfExp c a b q=>.GN c a b q
 | .Compare l [o] [r] q=>.cmp l o r q
 | .Compare l [lA,kR] [gq,gW] q=>.uU l lA kR gq gW q
 | .Call (.Attribute o x a) cS [] q=>.Hx o x a cS q
 | .Call f cS [] q=>.call f cS q
 | .Attribute o x q=>.attr o x q
 | .Subscript o (.Slice a b c q) xt=>.slice o a b c q xt
 | .Subscript o i q=>.item o i q
 | .List ao q=>.list ao q
 | .Tuple ao k q=>.tup ao k q
 | .Dict dm ao q=>.dict dm ao q
 | .ListComp e j7 sc q=>.comp e j7 sc q
 |e=>.no e
noncomputable def jA (e:Expr):Bool:=!rU 22 e
noncomputable def MO (e:Expr):Bool:=!rU 20 e
noncomputable def s5 (e:Expr):Bool:=!rU 26 e
noncomputable def ML:I->aD I
 | .int i=>ai (.int (-i))
 |_=>no
noncomputable def Rd (p:ay) (m:aD (List I)) (ao:List Expr) (dm:List Str):aD I:=if decide dm.Nodup&&decide (dm.length=ao.length)&&decide (dm.length<=15)then Y m λaa=>new p (.jn (dm.zip aa))else no
noncomputable def Rc (p:ay) (m:aD (List I)) (ao:List Expr) (dm:List Int):aD I:=if decide dm.Nodup&&decide (dm.length=ao.length)&&(decide (dm.length<=15) || decide (dm.length=25))then Y m λaa=>new p (.cB (dm.zip aa))else no
noncomputable def F9 (p:ay) (m:aD (List I)) (ao:List Expr):Option (List Str)->Option (List Int)->aD I
 |_,some dm=>Rc p m ao dm
 |some dm,none=>Rd p m ao dm
 |none,none=>no
noncomputable def abk:∀j7:List Comprehension,Option {x:Str×Expr×List Expr//∃mY,j7=[⟨.Name x.1 mY,x.2.1,x.2.2,0⟩]}
 |[⟨.Name x mY,it,ifs,0⟩]=>some ⟨(x,it,ifs),mY,rfl⟩
 |_=>none
noncomputable def FL (j7:List Comprehension):Option (Str×Expr×List Expr):=(abk j7).map (·.1)
noncomputable def QD (KX:Expr->aD I) (Of:Scope->ay->aL->Expr->aD Bool) (ek:ay->aL->aD I) (eB sc:Scope) (p:ay) (J:aL):Option (Str×Expr×List Expr)->aD I
 |some (x,iter,ifs)=>if yq eB sc x&&zf iter then Y (KX iter) λit=>Y (jP it) λU=>sub p λq=>Y (new q (.list [])) λeg=>match eg with
    | .ref eg=>Y (rO (xE (λc J=>Of (kq eB sc) q J c) ifs) (λJ=>ek q J) x it eg (wA eB J) 1000 0) λU=>ai (.ref eg)
    |_=>no
    else no
 |none=>no
inductive tQ:Expr->Type
 |not e q:tQ (.UnaryOp .Not e q)|and a b q:tQ (.BoolOp .And [a,b] q)|or a b q:tQ (.BoolOp .Or [a,b] q)|or3 a b c q:tQ (.BoolOp .Or [a,b,c] q)|cmp l o r q:tQ (.Compare l [o] [r] q)|uU l lA kR gq gW q:tQ (.Compare l [lA,kR] [gq,gW] q)|val e:tQ e
noncomputable def Wz:∀e,tQ e
 | .UnaryOp .Not e q=>.not e q
 | .BoolOp .And [a,b] q=>.and a b q
 | .BoolOp .Or [a,b] q=>.or a b q
 | .BoolOp .Or [a,b,c] q=>.or3 a b c q
 | .Compare l [o] [r] q=>.cmp l o r q
 | .Compare l [lA,kR] [gq,gW] q=>.uU l lA kR gq gW q
 |e=>.val e
noncomputable def M0 (e:Expr):Bool:=!(rU 3 e || (rU 0 e || (rU 15 e || rU 5 e)))
noncomputable def KW (L:ay->Addr->List I->aD I) (E:Scope->ay->aL->Expr->aD I) (T:Scope->ay->aL->Expr->aD Bool) (aC:Scope->ay->aL->List Expr->aD (List I)) (O:Scope->ay->aL->Option Expr->aD I) (sc:Scope) (p:ay) (J:aL) (w:kj e):aD I:=w.casesOn (motive:=λU U=>aD I)
  (λi U U=>ai (.int i))
  (λx U U=>ai (.str x))
  (λb U U=>ai (.bool b))
  (λU U=>ai .none)
  (λb U U=>ai (.bytes (b.map UInt8.toNat)))
  (λx U=>Ep sc J x)
  (λl eO r U=>Y (E sc p J l) λa=>Y (E sc p J r) λb=>fk p eO a b)
  (λe U=>Y (E sc p J e) ML)
  (λa b U=>Y (E sc p J a) λv=>Y (truth v) λt=>if t then E sc p J b else ai v)
  (λa b U=>Y (E sc p J a) λv=>Y (truth v) λt=>if t then ai v else E sc p J b)
  (λc a b U=>Y (T sc p J c) λt=>if t then E sc p J a else E sc p J b)
  (λl eO r U=>if behindInMarks eO r then no else Y (E sc p J l) λa=>Y (E sc p J r) λb=>Y (dX eO a b) λt=>ai (.bool t))
  (λl eO oH r q U=>if behindInMarks eO r || behindInMarks oH q then no else Y (E sc p J l) λa=>Y (E sc p J r) λb=>Y (dX eO a b) λt=>if t then Y (E sc p J q) λc=>Y (dX oH b c) λt=>ai (.bool t)else ai (.bool false))
  (λo x JR args pos=>if yg o&&(JR.endLine==pos.line&&decide (args.length<30))then Y (E sc p J o) λiD=>Y (i0 iD x) λf=>Y (aC sc p J args) λaa=>fz L p f (iD::aa)else no)
  (λf args U=>if MO f then Y (E sc p J f) λK7=>Y (aC sc p J args) λaa=>fz L p K7 aa else no)
  (λo x U=>if yg o then Y (E sc p J o) λv=>fB v x else no)
  (λo a b c U U=>Y (E sc p J o) λv=>Y (O sc p J a) λx=>Y (O sc p J b) λy=>Y (O sc p J c) λz=>slice p v x y z)
  (λo i U=>if s5 i then Y (E sc p J o) λa=>Y (E sc p J i) λb=>item a b else no)
  (λao U=>Y (aC sc p J ao) λaa=>if decide (aa.length<=1000)then new p (.list aa)else no)
  (λao U U=>Y (aC sc p J ao) λaa=>if decide (aa.length<=1000)then ai (.tup aa)else no)
  (λdm ao U=>F9 p (aC sc p J ao) ao (zI dm) (yP dm))
  (λkZ j7 eB U=>QD (λe=>E sc p J e) (λsc q J e=>T sc q J e) (λq J=>E (kq eB sc) q J kZ) eB sc p J (FL j7))
  (λU=>no)
noncomputable def WA (E:Expr->aD I) (T:Expr->aD Bool) (w:tQ e):aD Bool:=w.casesOn (motive:=λU U=>aD Bool)
  (λe U=>Y (T e) λt=>ai (!t))
  (λa b U=>Y (T a) λt=>if t then T b else ai false)
  (λa b U=>Y (T a) λt=>if t then ai true else T b)
  (λa b c U=>Y (T a) λt=>if t then ai true else Y (T b) λt=>if t then ai true else T c)
  (λl eO r U=>if behindInMarks eO r then no else Y (E l) λa=>Y (E r) λb=>dX eO a b)
  (λl eO oH r q U=>if behindInMarks eO r || behindInMarks oH q then no else Y (E l) λa=>Y (E r) λb=>Y (dX eO a b) λt=>if t then Y (E q) λc=>dX oH b c else ai false)
  (λe=>if M0 e then Y (E e) truth else no)
noncomputable def Rt (E:Expr->aD I) (aC:List Expr->aD (List I)):List Expr->aD (List I)
  |[]=>ai []
  |e::l=>if jA e then Y (E e) λv=>Y (aC l) λaa=>ai (v::aa)else no
noncomputable def Rr (E:Expr->aD I):Option Expr->aD I
  |none=>ai .none
  |some e=>E e
mutual
noncomputable def eK (L:ay->Addr->List I->aD I):Nat->Scope->ay->aL->Expr->aD I
 |0,_,_,_,_=>no
 |n+1,sc,p,J,e=>KW L (eK L n) (gv L n) (tX L n) (Gh L n) sc p J (CG e)
noncomputable def gv (L:ay->Addr->List I->aD I):Nat->Scope->ay->aL->Expr->aD Bool
 |0,_,_,_,_=>no
 |n+1,sc,p,J,e=>WA (eK L n sc p J) (gv L n sc p J) (Wz e)
noncomputable def tX (L:ay->Addr->List I->aD I):Nat->Scope->ay->aL->List Expr->aD (List I)
 |0,_,_,_,_=>no
 |n+1,sc,p,J,l=>Rt (eK L n sc p J) (tX L n sc p J) l
noncomputable def Gh (L:ay->Addr->List I->aD I):Nat->Scope->ay->aL->Option Expr->aD I
 |0,_,_,_,_=>no
 |n+1,sc,p,J,e=>Rr (eK L n sc p J) e
end
noncomputable def ie (v:I) (f:I->I->aD I):aD I:=match v with
 | .tup [a,b]=>f a b
 |_=>no
noncomputable def tw (v:I) (f:I->I->I->aD I):aD I:=match v with
 | .tup [a,b,c]=>f a b c
 |_=>no
noncomputable def Oj (v:I) (f:I->I->I->I->aD I):aD I:=match v with
 | .tup [a,b,c,d]=>f a b c d
 |_=>no
noncomputable def LX (sc:Scope) (x:Str):Bool:=sc.names.lookup x==some .local || sc.names.lookup x==some .cell
inductive tH:Expr->Type
 |name x q:tH (.Name x q)|attr o x q:tH (.Attribute o x q)|item o i q:tH (.Subscript o i q)|b6 a b k q:tH (.Tuple [a,b] k q)|t3 a b c k q:tH (.Tuple [a,b,c] k q)|fj a b c d k q:tH (.Tuple [a,b,c,d] k q)|no e:tH e
noncomputable def JT:∀e,tH e
 | .Name x q=>.name x q
 | .Attribute o x q=>.attr o x q
 | .Subscript o i q=>.item o i q
 | .Tuple [a,b] k q=>.b6 a b k q
 | .Tuple [a,b,c] k q=>.t3 a b c k q
 | .Tuple [a,b,c,d] k q=>.fj a b c d k q
 |e=>.no e
noncomputable def JV (E:aL->Expr->aD I) (A:Expr->I->aL->(aL->aD I)->aD I) (sc:Scope) (v:I) (J:aL) (k:aL->aD I) (w:tH t):aD I:=w.casesOn (motive:=λU U=>aD I)
  (λx U=>if LX sc x then k (J.put x v)else no)
  (λo x U=>Y (E J o) λiD=>Y (lT iD x v) λU=>k J)
  (λo i U=>if s5 i then Y (E J o) λiD=>Y (E J i) λyU=>Y (ju iD yU v) λU=>k J else no)
  (λfC b6 U U=>if jA fC&&jA b6 then ie v λlF j4=>A fC lF J λJ=>A b6 j4 J k else no)
  (λfC b6 t3 U U=>if jA fC&&jA b6&&jA t3 then tw v λlF j4 tB=>A fC lF J λJ=>A b6 j4 J λJ=>A t3 tB J k else no)
  (λfC b6 t3 fj U U=>if jA fC&&jA b6&&(jA t3&&jA fj)then Oj v λlF j4 tB IU=>A fC lF J λJ=>A b6 j4 J λJ=>A t3 tB J λJ=>A fj IU J k else no)
  (λU=>no)
noncomputable def asg (L:ay->Addr->List I->aD I) (n:Nat) (sc:Scope) (p:ay):Nat->Expr->I->aL->(aL->aD I)->aD I
 |0,_,_,_,_=>no
 |m+1,t,v,J,k=>JV (eK L n sc p) (asg L n sc p m) sc v J k (JT t)
noncomputable def an8:∀e:Expr,Option {fq:List Expr//∃k p,e=.Tuple fq k p}
 | .Tuple fq k p=>some ⟨fq,k,p,rfl⟩
 |_=>none
noncomputable def vL (e:Expr):Option (List Expr):=(an8 e).map (·.1)
noncomputable def LG (e:Expr):Bool:=rU 24 e
noncomputable def Ek (sc:Scope) (line:Nat):Expr->Option Str
 | .Name id pos=>if sc.names.lookup id==some .local&&pos.line==line then some id else none
 |_=>none
noncomputable def afm:Expr->Bool| .Starred ..=>true|_=>false
noncomputable def NQ (sc:Scope) (fq aa:List Expr):Option (Option (List Str)):=
  if !(fq.length==2 || fq.length==3) || aa.length != fq.length then some none
  else if aa.any afm then some none
  else if(fq.filterMap (Ek sc ((fq.head?.map (·.pos.line)).getD 0))).length != fq.length || (fq.filterMap (Ek sc ((fq.head?.map (·.pos.line)).getD 0))).eraseDups.length != (fq.filterMap (Ek sc ((fq.head?.map (·.pos.line)).getD 0))).length then some none
  else if aa.all (foldedForSure 8)then some none
  else if aa.all (constantsAlone 8)then none
  else some (some (fq.filterMap (Ek sc ((fq.head?.map (·.pos.line)).getD 0))))
noncomputable def amQ (sc:Scope):Option (List Expr)->Option (List Expr)->Option (Option (List Str))
 |some fq,some aa=>NQ sc fq aa
 |_,_=>some none
noncomputable def vE (t value:Expr) (sc:Scope):Option (Option (List Str)):=if LG t then none else amQ sc (vL t) (vL value)
noncomputable def GP (e:Expr):Bool:=rU 8 e || (rU 9 e || rU 10 e)
noncomputable def gP (body:aL->(aL->aD I)->aD I) (B:I->aL->(aL->aD I)->aD I) (it:I) (k:aL->aD I):Nat->Nat->aL->aD I
 |0,_,_=>no
 |n+1,i,J=>Y (g8 it i) λ
  |none=>k J
  |some v=>B v J λJ=>body J λJ=>gP body B it k n (i+1) J
noncomputable def uw (vK:aL->aD Bool) (body:aL->(aL->aD I)->aD I) (k:aL->aD I):Nat->aL->aD I
 |0,_=>no
 |n+1,J=>Y (vK J) λt=>if t then body J λJ=>uw vK body k n J else k J
inductive rK:Stmt->Type
 |pass q:rK (.Pass q)|ret e q:rK (.Return (some e) q)|VE q:rK (.Return none q)|ite c b o q:rK (.If c b o q)|expr e q:rK (.Expr e q)|asg t e q:rK (.Assign [t] e q)|for t it b q:rK (.For t it b [] q)|while c b q:rK (.While c b [] q)|no s:rK s
noncomputable def Wa:∀s,rK s
 | .Pass q=>.pass q
 | .Return (some e) q=>.ret e q
 | .Return none q=>.VE q
 | .If c b o q=>.ite c b o q
 | .Expr e q=>.expr e q
 | .Assign [t] e q=>.asg t e q
 | .For t it b [] q=>.for t it b q
 | .While c b [] q=>.while c b q
 |s=>.no s
noncomputable def NR (v:I) (J:aL) (k:aL->aD I):List Str->aD I
 |[x,y]=>ie v λlF j4=>k ((J.put y j4).put x lF)
 |[x,y,z]=>tw v λlF j4 tB=>k (((J.put z tB).put y j4).put x lF)
 |_=>no
noncomputable def JX (m:aD I) (g6:I->aD I) (gK:I->List Str->aD I):Option (Option (List Str))->aD I
 |none=>no
 |some none=>Y m g6
 |some (some names)=>Y m λv=>gK v names
noncomputable def Rv (E:aL->Expr->aD I) (T:aL->Expr->aD Bool) (A:Expr->I->aL->(aL->aD I)->aD I) (G:List Stmt->aL->(aL->aD I)->aD I) (sc:Scope) (J:aL) (k:aL->aD I) (w:rK t):aD I:=w.casesOn (motive:=λU U=>aD I)
  (λU=>k J)
  (λe U=>E J e)
  (λU=>ai .none)
  (λc b o U=>Y (T J c) λt=>if t then G b J k else G o J k)
  (λe U=>if GP e then no else Y (E J e) λv=>if t7 v then k J else no)
  (λt e U=>JX (E J e) (λv=>A t v J k) (λv names=>NR v J k names) (vE t e sc))
  (λt it b U=>if zf it then Y (E J it) λv=>Y (jP v) λU=>gP (λJ k=>G b J k) (λv J k=>A t v J k) v k 1000 0 J else no)
  (λc b U=>uw (λJ=>T J c) (λJ k=>G b J k) k 1000 J)
  (λU=>no)
noncomputable def Rw (b4:Stmt->aL->(aL->aD I)->aD I) (G:List Stmt->aL->(aL->aD I)->aD I) (J:aL) (k:aL->aD I):List Stmt->aD I
  |[]=>k J
  |t::l=>b4 t J λJ=>G l J k
mutual
noncomputable def ex (L:ay->Addr->List I->aD I):Nat->Scope->ay->Stmt->aL->(aL->aD I)->aD I
 |0,_,_,_,_,_=>no
 |n+1,sc,p,t,J,k=>Rv (eK L n sc p) (gv L n sc p) (asg L n sc p 3) (c5 L n sc p) sc J k (Wa t)
noncomputable def c5 (L:ay->Addr->List I->aD I):Nat->Scope->ay->List Stmt->aL->(aL->aD I)->aD I
 |0,_,_,_,_,_=>no
 |n+1,sc,p,l,J,k=>Rw (ex L n sc p) (c5 L n sc p) J k l
end
noncomputable def V8:List (Addr×Nat×List I):=[(241,5,[.int 10000]),(1199,3,[.int 64,.int 12,.int 768,.tup [.int 1,.int 1]]),(1248,2,[.tup [],.none]),(1248,3,[.none])]
noncomputable def uQ (a:Addr) (f:ni) (aa:List I):Option (List (Str×I)):=
 if decide (aa.length=f.jl.args.length)then some ((f.jl.args.map (·.arg)).zip aa)else
 match V8.find? (λq=>q.1==a&&q.2.1==aa.length)with
 |some q=>some ((f.jl.args.map (·.arg)).zip (aa++q.2.2))
 |none=>none
noncomputable def body (L:ay->Addr->List I->aD I) (p:ay) (a:Addr) (aa:List I):aD I:=
 match iA.lookup a with
 |some f=>Y (gU (uQ a f aa)) λeW=>c5 L 100 f.sc p f.body (qY f.sc eW) λU=>ai .none
 |none=>no
noncomputable def aJ:Nat->ay->Addr->List I->aD I
 |0,_,_,_=>no
 |c+1,p,a,aa=>if sQ a then sub p λq=>body (aJ c) q a aa else Iu p λq=>body (aJ c) q a aa
noncomputable abbrev cy:=ay->Addr->List I->aD I
noncomputable def H (v:I):aD I:=match v with
 | .undef=>no
 |v=>ai v
noncomputable def s3 (v:I):aD I:=match v with
 | .int i=>ai (.int (-i))
 |_=>no
noncomputable def dN (m:aD I) (l:aD (List I)):aD (List I):=Y m λv=>Y l λaa=>ai (v::aa)
noncomputable def iK (p:ay) (aa:List I):aD I:=if decide (aa.length<=1000)then new p (.list aa)else no
noncomputable def r3 (aa:List I):aD I:=if decide (aa.length<=1000)then ai (.tup aa)else no
noncomputable def jZ (p:ay) (kh:ay->aL->aD Bool) (ek:ay->aL->aD I) (x:Str) (it:I) (J:aL):aD I:=
 Y (jP it) λU=>sub p λq=>Y (new q (.list [])) λeg=>match eg with
  | .ref eg=>Y (rO (kh q) (ek q) x it eg J 1000 0) λU=>ai (.ref eg)
  |_=>no
noncomputable def QZ:Expr:=.Constant .none default default
noncomputable def abC:Stmt:=.Pass default
noncomputable def ab5:Expr->List Expr
 | .BinOp l _ r _=>[l,r]
 | .UnaryOp _ e _=>[e]
 | .BoolOp _ ao _=>ao
 | .IfExp c a b _=>[c,a,b]
 | .Compare l _ rs _=>l::rs
 | .Call f cS _ _=>f::cS
 | .Attribute o _ _=>[o]
 | .Subscript o i _=>[o,i]
 | .Slice a b c _=>[a,b,c].filterMap id
 | .List ao _=>ao
 | .Tuple ao _ _=>ao
 | .Dict _ aa _=>aa
 | .ListComp e j7 _ _=>e::j7.flatMap λg=>g.iter::g.ifs
 |_=>[]
noncomputable def ee (e:Expr) (i:Nat):Expr:=(ab5 e).getD i QZ
noncomputable def fO (s:Stmt) (i:Nat):Expr:=(match s with
 | .Assign fq v _=>v::fq
 | .Expr v _=>[v]
 | .Return (some v) _=>[v]
 | .If c _ _ _=>[c]
 | .For t i _ _ _=>[t,i]
 | .While c _ _ _=>[c]
 |_=>[]).getD i QZ
noncomputable def iG:Stmt->List Stmt
 | .If _ b _ _=>b
 | .For _ _ b _ _=>b
 | .While _ b _ _=>b
 |_=>[]
noncomputable def c6 (l:List Stmt):Stmt:=l.headD abC
noncomputable def oq:Expr->Scope
 | .ListComp _ _ sc _=>sc
 |_=>(aA 0).sc
noncomputable def ak (i:Int):aD I:=ai (.int i)
noncomputable def ns (s:String):aD I:=ai (.str (Str.ofString s))
noncomputable def fN (a:Addr):aD I:=ai (.at a)
noncomputable def bh (a:aD I):aD (List I):=dN a (ai [])
noncomputable def bP (a b:aD I):aD (List I):=dN a (dN b (ai []))
noncomputable def dF (a b c:aD I):aD (List I):=dN a (dN b (dN c (ai [])))
noncomputable def jw (a b c d:aD I):aD (List I):=dN a (dN b (dN c (dN d (ai []))))
noncomputable def qC (a b c d e:aD I):aD (List I):=dN a (dN b (dN c (dN d (dN e (ai [])))))
noncomputable def BI (a b c d e f:aD I):aD (List I):=dN a (dN b (dN c (dN d (dN e (dN f (ai []))))))
noncomputable def WL (a b c d e f g:aD I):aD (List I):=dN a (dN b (dN c (dN d (dN e (dN f (dN g (ai [])))))))
noncomputable def e_ (p:ay) (l:aD (List I)):aD I:=Y l (iK p)
noncomputable def eM (l:aD (List I)):aD I:=Y l r3
noncomputable def pL (m:aD I):aD Bool:=Y m truth
noncomputable def aU (p:ay) (o:Operator) (a b:aD I):aD I:=Y a λx=>Y b λy=>fk p o x y
noncomputable def b_ (o:CmpOp) (a b:aD I):aD Bool:=Y a λx=>Y b λy=>dX o x y
noncomputable def ki (o:CmpOp) (a b:aD I):aD I:=Y a λx=>Y b λy=>Y (dX o x y) λt=>ai (.bool t)
noncomputable def aV (a b:aD I):aD I:=Y a λx=>Y b λy=>item x y
noncomputable def a_ (a:aD I) (s:String):aD I:=Y a λx=>fB x (Str.ofString s)
noncomputable def er (o:aD I) (s:String) (v:I) (r:aD I):aD I:=Y o λx=>Y (lT x (Str.ofString s) v) λU=>r
noncomputable def gT (o i:aD I) (v:I) (r:aD I):aD I:=Y o λx=>Y i λy=>Y (ju x y v) λU=>r
noncomputable def ck (L:cy) (p:ay) (f:aD I) (l:aD (List I)):aD I:=Y f λg=>Y l λaa=>fz L p g aa
noncomputable def bC (L:cy) (p:ay) (a:Addr) (l:aD (List I)):aD I:=Y l λaa=>L p a aa
noncomputable def cQ (L:cy) (p:ay) (o:aD I) (s:String) (l:aD (List I)):aD I:=Y o λx=>Y (i0 x (Str.ofString s)) λf=>Y l λaa=>fz L p f (x::aa)
noncomputable def b7 (c:aD Bool) (a b:aD I):aD I:=Y c λt=>if t then a else b
noncomputable def eH (e r:aD I):aD I:=Y e λv=>if t7 v then r else no
noncomputable def jL (L:cy) (p:ay) (n:Nat) (sc:Scope) (b:List Stmt) (t:Expr) (it:I) (k:aL->aD I) (J:aL):aD I:=Y (jP it) λU=>gP (λJ k=>c5 L n sc p b J k) (λv J k=>asg L n sc p 3 t v J k) it k 1000 0 J
noncomputable def rI (L:cy) (p:ay) (n:Nat) (iw:Scope) (aaM:Expr) (s:String) (it:I) (J:aL):aD I:=jZ p (λU U=>ai true) (λq J=>eK L n iw q J (ee aaM 0)) (Str.ofString s) it J
noncomputable def alW:Stmt->Pos| .Assign _ _ x=>x|_=>default
noncomputable def yt:Expr->List (Option Expr)| .Dict dm _ _=>dm|_=>[]
noncomputable def wD:Expr->List Expr| .Dict _ ao _=>ao|_=>[]
noncomputable def KM:Expr->Pos| .Dict _ _ x=>x|_=>default
theorem acD {K:List Int} (hd:e=.Dict (yt e) (wD e) (KM e)) (aR:zI (yt e)=none) (bI:yP (yt e)=some K) (bG:decide K.Nodup=true) (aI:K.length=(wD e).length) (aN:(decide (K.length<=15) || decide (K.length=25))=true):
  eK L (n+1) sc p J e=Y (tX L n sc p J (wD e)) λaa=>new p (.cB (K.zip aa)):=by
 generalize yt e=dm,wD e=ao,KM e=x at*
 subst hd
 show F9 p (tX L n sc p J ao) ao (zI dm) (yP dm)=_
 rw[aR,bI]
 show(if decide K.Nodup&&decide (K.length=ao.length)&&(decide (K.length<=15) || decide (K.length=25))then _ else _)=_
 rw[bG,iU aI,aN]
 rfl
noncomputable def Vm (sc:Scope):Expr->Option I
 | .Name x _=>if x==Ax || x==Am then none else match sc.names.lookup x with
  |some .globalImplicit=>globals.lookup x
  |_=>none
 |_=>none
noncomputable def Ia (sc:Scope):List Expr->Option (List I)
 |[]=>some []
 |e::l=>match Vm sc e,Ia sc l with
  |some v,some aa=>some (v::aa)
  |_,_=>none
set_option tactic.hygienic true in
theorem acP {L:ay->Addr->List I->aD I} (h:Vm sc e=some v):eK L (n+1) sc p J e=ai v:=by
 rcases e with _|_<;>first|exact Option.noConfusion rfl (heq_of_eq h)|skip
 rename_i x y
 show Ep sc J x=_
 have bH:(if x==Ax || x==Am then none else match sc.names.lookup x with
  |some .globalImplicit=>globals.lookup x
  |_=>none)=some v:=h
 unfold Ep
 by_cases az:(x==Ax || x==Am)=true
 .rw[bT az]at bH;cases bH
 .rw[bX az]at bH ⊢
  cases aE:sc.names.lookup x with
  |none=>rw[aE]at bH;cases bH
  |some sT=>
   rw[aE]at bH
   rcases sT with _|_<;>first|(rcases bH with _|_;done)|skip
   dsimp only at bH ⊢
   rw[bH];rfl
set_option tactic.hygienic true in
theorem Ru:∀(l:List Expr) (aa:List I) (n:Nat),Ia sc l=some aa->l.length+2<=n->tX L n sc p J l=ai aa
 |[],aa,n+1,h,_=>by
  have:aa=[]:=(iH h).symm
  rw[this];rfl
 |e::l,aa,n+1,h,bG=>by
  simp only[List.length_cons]at bG
  unfold Ia at h
  split at h
  .rename_i v m8 az aE
   rw[<-iH h]
   have ih:=Ru (L:=L) (p:=p) (J:=J) l m8 n aE (by omega)
   obtain⟨n,rfl⟩:∃k,n=k+1:=⟨n -1,by omega⟩
   have cA:=acP (L:=L) (n:=n) (p:=p) (J:=J) az
   have aR:jA e=true:=by rcases e with _|_<;>first|rfl|cases az
   show(if jA e then Y (eK L (n+1) sc p J e) λv=>Y (tX L (n+1) sc p J l) λaa=>ai (v::aa)else no)=_
   rw[bT aR,cA,ih];rfl
  .cases h
theorem aav (bD:iA.lookup a=some f) (aP:uQ a f []=some eW) (aR:f.body=s::l) (jh:s=.Assign [t] e x) (eL:vE t e f.sc=some none):
  body L p a []=Y (eK L 98 f.sc p (qY f.sc eW) e) λv=>asg L 98 f.sc p 3 t v (qY f.sc eW) λJ=>c5 L 99 f.sc p l J λU=>ai .none:=by
 subst jh
 unfold body
 rw[bD]
 dsimp only
 rw[aP,aR]
 have bk:∀n sc l J k s,c5 L (n+1) sc p (s::l) J k=ex L n sc p s J λJ=>c5 L n sc p l J k:=λU U U U U U=>rfl
 have bK:∀n sc J k,ex L (n+1) sc p (.Assign [t] e x) J k=JX (eK L n sc p J e) (λv=>asg L n sc p 3 t v J k) (λv names=>NR v J k names) (vE t e sc):=λU U U U=>rfl
 have gJ:∀(eW:List (Str×I)) (g:List (Str×I)->aD I),Y (gU (some eW)) g=g eW:=λU U=>rfl
 rw[gJ,bk 99,bK 98,eL];rfl
section
variable (L:cy) (p:ay) (au:aL->aD I) (w X ah aB aK aX bg bS cv dc eY fL gX ir gY kI zP pH:I)
noncomputable abbrev Bj (X ah aB aK aX:I):aL:=[(("script":Str),X),(("cell":Str),ah),(("big":Str),aB),(("mixed":Str),aK),(("k":Str),aX)]
noncomputable def G2:List Stmt:=iG (c6 ((aA 173).body.drop 5))
noncomputable def Hl:Expr:=fO (c6 ((aA 173).body.drop 5)) 0
noncomputable def Dh (L:cy) (p:ay):aL->aD I:=(λd4=>c5 L 94 (aA 173).sc p ((aA 173).body.drop 6) d4 (λU=>ai .none))
noncomputable def Fv (L:cy) (p:ay) (X ah aB aK aX:I):aD I:=Y (aU p .Mod (H aB) (ak 2147483629)) λhU=>Y (ck L p (ai (.type "range")) (bh (ck L p (ai (.bi "min")) (bP (ck L p (ai (.bi "len")) (bh (H X))) (ak 40))))) λpC=>jL L p 93 (aA 173).sc G2 Hl pC (Dh L p) (Bj X ah aB hU aX)
noncomputable def Cq (L:cy) (p:ay) (X ah aB aK aX:I):aD I:=Y (H ah) λkH=>b7 (b_ .Lt (H kH) (ak 0)) (Y (aU p .Sub (aU p .Sub (ak 0) (H kH)) (ak 1)) λkG=>Fv L p (X) (ah) (kG) (aK) (aX)) (Fv L p (X) (ah) (kH) (aK) (aX))
noncomputable def J_ (L:cy) (p:ay) (X:I):aD I:=Y (ak 0) λfC=>b7 (b_ .Gt (ck L p (ai (.bi "len")) (bh (H X))) (ak 0)) (Y (aV (H X) (ak 0)) λqB=>Cq L p (X) (qB) (.undef) (.undef) (.undef)) (Cq L p (X) (fC) (.undef) (.undef) (.undef))
theorem PI:body L p 1283 [X]=J_ L p X:=by kernel_rfl
noncomputable def Fw (L:cy) (p:ay) (X ah aB aK aX:I):aD I:=e_ p (bP (H aB) (H aK))
theorem TJ:Dh L p (Bj X ah aB aK aX)=(b7 (b_ .Lt (H aB) (aU p .Pow (ak 10) (ak 18))) (Y (ak 0) λBC=>Fw L p (X) (ah) (BC) (aK) (aX)) (Fw L p (X) (ah) (aB) (aK) (aX))):=by kernel_rfl
theorem ahy:asg L 93 (aA 173).sc p 3 Hl w (Bj X ah aB aK aX) au=(au (Bj X ah aB aK w)):=by kernel_rfl
noncomputable def Fx (L:cy) (p:ay) (X:I) (ah:I):aD I:=aV (H ah) (bC L p 1290 (bP (H X) (ck L p (ai (.bi "len")) (bh (H ah)))))
theorem J3:body L p 1297 [X,ah]=Fx L p X ah:=by kernel_rfl
noncomputable abbrev zx (X ah aB:I):aL:=[(("numbers":Str),X),(("found":Str),ah),(("number":Str),aB)]
noncomputable def Kv:Expr:=(ee (ee (ee (fO (c6 (aA 176).body) 0) 0) 0) 1)
noncomputable def QU:Scope:=kq (oq Kv) (aA 176).sc
noncomputable abbrev Vw (aX:I):aL:=[((".0":Str),.undef),(("one":Str),aX)]
noncomputable def Kw:Expr:=(ee (ee (ee (fO (c6 (aA 176).body) 0) 1) 0) 1)
noncomputable def QV:Scope:=kq (oq Kw) (aA 176).sc
noncomputable abbrev Vx (aX:I):aL:=[((".0":Str),.undef),(("one":Str),aX)]
noncomputable def G3:List Stmt:=iG (c6 ((aA 176).body.drop 2))
noncomputable def Ho:Expr:=fO (c6 ((aA 176).body.drop 2)) 0
noncomputable def Di (L:cy) (p:ay):aL->aD I:=(λd4=>c5 L 97 (aA 176).sc p ((aA 176).body.drop 3) d4 (λU=>ai .none))
theorem ahz:asg L 96 (aA 176).sc p 3 Ho w (zx X ah aB) au=(au (zx X ah w)):=by kernel_rfl
noncomputable abbrev Bk (X ah aB aK aX bg bS cv:I):aL:=[(("own":Str),X),(("points":Str),ah),(("first":Str),aB),(("last":Str),aK),(("whole":Str),aX),(("now":Str),bg),(("i":Str),bS),(("d":Str),cv)]
noncomputable def L4:List Stmt:=iG (c6 ((aA 183).body.drop 2))
noncomputable def TU:Expr:=fO (c6 ((aA 183).body.drop 2)) 0
noncomputable def TK (L:cy) (p:ay):aL->aD I:=(λd4=>c5 L 97 (aA 183).sc p ((aA 183).body.drop 3) d4 (λU=>ai .none))
theorem ahA:asg L 96 (aA 183).sc p 3 TU w (Bk X ah aB aK aX bg bS cv) au=(au (Bk X ah aB aK aX bg w cv)):=by kernel_rfl
noncomputable def yk:Expr:=(ee (fO (c6 ((aA 184).body.drop 1)) 0) 0)
noncomputable def Ao:Scope:=kq (oq yk) (aA 184).sc
noncomputable abbrev DJ (gY aX ah bg X aK:I):aL:=[((".0":Str),.undef),(("k":Str),gY),(("at":Str),aX),(("axis":Str),ah),(("many":Str),bg),(("own":Str),X),(("row":Str),aK)]
noncomputable def yl:Expr:=(ee (fO (c6 ((aA 184).body.drop 2)) 0) 0)
noncomputable def Aq:Scope:=kq (oq yl) (aA 184).sc
noncomputable abbrev DK (gY aX ah bg X aK:I):aL:=[((".0":Str),.undef),(("k":Str),gY),(("at":Str),aX),(("axis":Str),ah),(("many":Str),bg),(("own":Str),X),(("row":Str),aK)]
theorem aaX:eK L 95 Ao p (DJ gY aX ah bg X aK) (ee yk 0)=(aV (H aK) (aU p .Mod (aU p .Sub (H aX) (H gY)) (H bg))):=by kernel_rfl
theorem abv:gv L 95 Ao p (DJ gY aX ah bg X aK) (ee yk 2)=(Y (aV (aV (aV (H X) (ns "touched")) (aV (H aK) (aU p .Mod (aU p .Sub (H aX) (H gY)) (H bg)))) (H ah)) truth):=by kernel_rfl
theorem aaY:eK L 94 Aq p (DK gY aX ah bg X aK) (ee yl 0)=(aV (H aK) (aU p .Mod (aU p .Add (H aX) (H gY)) (H bg))):=by kernel_rfl
theorem abw:gv L 94 Aq p (DK gY aX ah bg X aK) (ee yl 2)=(Y (aV (aV (aV (H X) (ns "touched")) (aV (H aK) (aU p .Mod (aU p .Add (H aX) (H gY)) (H bg)))) (H ah)) truth):=by kernel_rfl
noncomputable abbrev ro (X ah aB aK aX bg:I):aL:=[(("own":Str),X),(("axis":Str),ah),(("row":Str),aB),(("i":Str),aK),(("due":Str),aX),(("number":Str),bg)]
noncomputable def t9:List Stmt:=iG (c6 (aA 185).body)
noncomputable def Mu:Expr:=fO (c6 (aA 185).body) 0
noncomputable def Dj (L:cy) (p:ay):aL->aD I:=(λd4=>c5 L 99 (aA 185).sc p ((aA 185).body.drop 1) d4 (λU=>ai .none))
noncomputable def ym:Expr:=(ee (fO (c6 t9) 0) 0)
noncomputable def Ar:Scope:=kq (oq ym) (aA 185).sc
noncomputable abbrev DL (aK ah X:I):aL:=[((".0":Str),.undef),(("i":Str),aK),(("axis":Str),ah),(("own":Str),X)]
noncomputable def uS:Expr:=(fO (c6 (iG (c6 t9))) 0)
noncomputable def wB:Scope:=kq (oq uS) (aA 185).sc
noncomputable abbrev DM (aK ah X aB:I):aL:=[((".0":Str),.undef),(("i":Str),aK),(("axis":Str),ah),(("own":Str),X),(("row":Str),aB)]
noncomputable def L5:List Stmt:=iG (c6 ((iG (c6 t9))).tail)
noncomputable def Hp:Expr:=fO (c6 ((iG (c6 t9))).tail) 0
noncomputable def Dk (L:cy) (p:ay) (au:aL->aD I):aL->aD I:=(λd4=>c5 L 94 (aA 185).sc p (((iG (c6 t9))).tail).tail d4 (λgq=>c5 L 97 (aA 185).sc p (t9).tail gq au))
theorem aaZ:eK L 94 Ar p (DL aK ah X) (ee ym 0)=(H aK):=by kernel_rfl
theorem abx:gv L 94 Ar p (DL aK ah X) (ee ym 2)=(Y (aV (aV (aV (H X) (ns "touched")) (H aK)) (H ah)) truth):=by kernel_rfl
theorem aby:gv L 93 wB p (DM aK ah X aB) (ee uS 2)=(Y (Y (aV (aV (aV (H X) (ns "touched")) (H aK)) (H ah)) truth) λmC=>ai (!mC)):=by kernel_rfl
theorem ahB:asg L 98 (aA 185).sc p 3 Mu w (ro X ah aB aK aX bg) au=(au (ro X ah w aK aX bg)):=by kernel_rfl
theorem ahd:Dk L p au (ro X ah aB aK aX bg)=(au (ro X ah aB aK aX bg)):=by kernel_rfl
theorem ahC:asg L 93 (aA 185).sc p 3 Hp w (ro X ah aB aK aX bg) au=(ie w λvH NZ=>au (ro X ah aB vH aX NZ)):=by kernel_rfl
noncomputable abbrev n8 (X ah aB aK aX bg bS cv dc eY fL gX ir gY kI:I):aL:=[(("source":Str),X),(("own":Str),ah),(("way":Str),aB),(("i":Str),aK),(("axis":Str),aX),(("c":Str),bg),(("k":Str),bS),(("points":Str),cv),(("d":Str),dc),(("flag":Str),eY),(("place":Str),fL),(("value":Str),gX),(("flags":Str),ir),(("step":Str),gY),(("one":Str),kI)]
noncomputable def Aj:Expr:=(fO (c6 ((aA 187).body.drop 1)) 0)
noncomputable def CA:Scope:=kq (oq Aj) (aA 187).sc
noncomputable abbrev Vy (bS ah X:I):aL:=[((".0":Str),.undef),(("k":Str),bS),(("own":Str),ah),(("source":Str),X)]
noncomputable def L6:List Stmt:=iG (c6 (iG (c6 ((aA 187).body.drop 7))))
noncomputable def Mv:Expr:=fO (c6 (iG (c6 ((aA 187).body.drop 7)))) 0
noncomputable def Mi (L:cy) (p:ay):aL->aD I:=(λd4=>c5 L 90 (aA 187).sc p ((iG (c6 ((aA 187).body.drop 7)))).tail d4 (λgq=>c5 L 92 (aA 187).sc p ((aA 187).body.drop 8) gq (λU=>ai .none)))
noncomputable def L7:List Stmt:=iG (c6 (((iG (c6 ((aA 187).body.drop 9)))).tail).tail)
noncomputable def Mw:Expr:=fO (c6 (((iG (c6 ((aA 187).body.drop 9)))).tail).tail) 0
noncomputable def Mj (L:cy) (p:ay):aL->aD I:=(λd4=>c5 L 86 (aA 187).sc p ((((iG (c6 ((aA 187).body.drop 9)))).tail).tail).tail d4 (λgq=>c5 L 90 (aA 187).sc p ((aA 187).body.drop 10) gq (λU=>ai .none)))
noncomputable def L8:List Stmt:=iG (c6 ((aA 187).body.drop 10))
noncomputable def Mx:Expr:=fO (c6 ((aA 187).body.drop 10)) 0
noncomputable def Mk (L:cy) (p:ay):aL->aD I:=(λd4=>c5 L 89 (aA 187).sc p ((aA 187).body.drop 11) d4 (λU=>ai .none))
theorem ahD:asg L 89 (aA 187).sc p 3 Mv w (n8 X ah aB aK aX bg bS cv dc eY fL gX ir gY kI) au=(au (n8 X ah aB aK aX bg w cv dc eY fL gX ir gY kI)):=by kernel_rfl
theorem ahE:asg L 85 (aA 187).sc p 3 Mw w (n8 X ah aB aK aX bg bS cv dc eY fL gX ir gY kI) au=(au (n8 X ah aB aK aX bg bS cv dc eY fL gX ir gY w)):=by kernel_rfl
theorem ahF:asg L 88 (aA 187).sc p 3 Mx w (n8 X ah aB aK aX bg bS cv dc eY fL gX ir gY kI) au=(au (n8 X ah aB aK aX bg bS cv dc eY fL gX ir gY w)):=by kernel_rfl
noncomputable abbrev zy (X ah aB aK aX bg bS cv dc eY fL gX ir gY kI:I):aL:=[(("script":Str),X),(("source":Str),ah),(("many":Str),aB),(("points":Str),aK),(("cut":Str),aX),(("ends":Str),bg),(("cvt":Str),bS),(("own":Str),cv),(("octets":Str),dc),(("turn":Str),eY),(("way":Str),fL),(("i":Str),gX),(("work":Str),ir),(("zone":Str),gY),(("state":Str),kI)]
noncomputable def Cr:Expr:=(fO (c6 ((aA 189).body.drop 2)) 0)
noncomputable def FP:Scope:=kq (oq Cr) (aA 189).sc
noncomputable abbrev Nb (zP ah:I):aL:=[((".0":Str),.undef),(("k":Str),zP),(("source":Str),ah)]
noncomputable def Cs:Expr:=(fO (c6 ((aA 189).body.drop 5)) 0)
noncomputable def FQ:Scope:=kq (oq Cs) (aA 189).sc
noncomputable abbrev Nc (zP ah:I):aL:=[((".0":Str),.undef),(("k":Str),zP),(("source":Str),ah)]
noncomputable def Ct:Expr:=(ee (fO (c6 ((aA 189).body.drop 6)) 0) 0)
noncomputable def FT:Scope:=kq (oq Ct) (aA 189).sc
noncomputable abbrev Nd (pH:I):aL:=[((".0":Str),.undef),(("p":Str),pH)]
noncomputable def Cu:Expr:=(ee (fO (c6 ((aA 189).body.drop 6)) 0) 1)
noncomputable def FU:Scope:=kq (oq Cu) (aA 189).sc
noncomputable abbrev Nf (pH:I):aL:=[((".0":Str),.undef),(("p":Str),pH)]
noncomputable def Cv:Expr:=(ee (fO (c6 ((aA 189).body.drop 7)) 0) 0)
noncomputable def FW:Scope:=kq (oq Cv) (aA 189).sc
noncomputable abbrev Ng (pH:I):aL:=[((".0":Str),.undef),(("p":Str),pH)]
noncomputable def AZ:List Stmt:=iG (c6 ((aA 189).body.drop 10))
noncomputable def Dl:Expr:=fO (c6 ((aA 189).body.drop 10)) 0
noncomputable def A1 (L:cy) (p:ay):aL->aD I:=(λd4=>c5 L 89 (aA 189).sc p ((aA 189).body.drop 11) d4 (λU=>ai .none))
theorem aa2:eK L 95 FP p (Nb zP ah) (ee Cr 0)=(eM (bP (aU p .Sub (bC L p 1290 (bP (H ah) (ak 400))) (ak 100)) (aU p .Sub (bC L p 1290 (bP (H ah) (ak 400))) (ak 100)))):=by kernel_rfl
theorem aa3:eK L 92 FQ p (Nc zP ah) (ee Cs 0)=(aU p .Sub (bC L p 1290 (bP (H ah) (ak 300))) (ak 100)):=by kernel_rfl
theorem aa4:eK L 89 FT p (Nd pH) (ee Ct 0)=(ck L p (ai (.type "list")) (bh (H pH))):=by kernel_rfl
theorem aa5:eK L 88 FU p (Nf pH) (ee Cu 0)=(ck L p (ai (.type "list")) (bh (H pH))):=by kernel_rfl
theorem aa6:eK L 88 FW p (Ng pH) (ee Cv 0)=(e_ p (bP (ai (.bool false)) (ai (.bool false)))):=by kernel_rfl
noncomputable def FE:Expr:=(ee (ee (fO (c6 ((aA 189).body.drop 17)) 0) 0) 1)
noncomputable def KC:Scope:=kq (oq FE) (aA 189).sc
noncomputable abbrev Vz (pH:I):aL:=[((".0":Str),.undef),(("p":Str),pH)]
theorem ahG:asg L 88 (aA 189).sc p 3 Dl w (zy X ah aB aK aX bg bS cv dc eY fL gX ir gY kI) au=(au (zy X ah aB aK aX bg bS cv dc w fL gX ir gY kI)):=by kernel_rfl
end
section
variable (L:cy) (p:ay) (au:aL->aD I) (w X ah aB aK aX bg bS cv dc eY fL gX ir:I)
noncomputable def Kh (L:cy) (p:ay) (X:I):aD I:=Y (ki .Eq (a_ (H X) "at") (ck L p (ai (.bi "len")) (bh (a_ (H X) "code")))) λfC=>Y (truth fC) λb6=>if b6 then ki .Eq (a_ (H X) "calls") (Y (ai []) (iK p))else ai fC
theorem Y7:body L p 149 [X]=Kh L p X:=by kernel_rfl
noncomputable def Qc (L:cy) (p:ay) (X:I) (ah:I):aD I:=b7 (Y (Y (ak 0) λt3=>Y (H ah) λfj=>Y (dX .LtE t3 fj) λe8=>if e8 then Y (ck L p (ai (.bi "len")) (bh (H X))) λcV=>dX .Lt fj cV else ai false) λb6=>ai (!b6)) (no) (aV (H X) (H ah))
theorem Y8:body L p 184 [X,ah]=Qc L p X ah:=by kernel_rfl
noncomputable def Fz (L:cy) (p:ay) (X:I):aD I:=Y (ki .In (H X) (eM (bP (ai (.int 64)) (ai (.int 65))))) λfC=>Y (truth fC) λb6=>if b6 then ai fC else Y (ai (.int 176)) λcV=>Y (H X) λcW=>Y (dX .LtE cV cW) λf_=>if f_ then Y (ai (.int 192)) λkH=>Y (dX .Lt cW kH) λjE=>ai (.bool jE)else ai (.bool false)
theorem Y9:body L p 191 [X]=Fz L p X:=by kernel_rfl
noncomputable def Kl (L:cy) (p:ay) (X:I) (ah:I):aD I:=Y (aV (H X) (H ah)) λt3=>b7 (b_ .In (H t3) (eM (bP (ai (.int 64)) (ai (.int 65))))) (eM (dF (aU p .Add (H ah) (ak 2)) (bC L p 184 (bP (H X) (aU p .Add (H ah) (ak 1)))) (ki .Eq (H t3) (ai (.int 65))))) (eM (dF (aU p .Add (H ah) (ak 1)) (aU p .Add (aU p .Mod (H t3) (ak 8)) (ak 1)) (ki .GtE (H t3) (ai (.int 184)))))
theorem Y_:body L p 198 [X,ah]=Kl L p X ah:=by kernel_rfl
noncomputable abbrev zz (X ah aB aK aX bg bS cv dc:I):aL:=[(("code":Str),X),(("at":Str),ah),(("begin":Str),aB),(("many":Str),aK),(("is_words":Str),aX),(("size":Str),bg),(("found":Str),bS),(("index":Str),cv),(("word":Str),dc)]
noncomputable def G4:List Stmt:=iG (c6 ((aA 24).body.drop 5))
noncomputable def Hq:Expr:=fO (c6 ((aA 24).body.drop 5)) 0
noncomputable def Hg (L:cy) (p:ay):aL->aD I:=(λd4=>c5 L 94 (aA 24).sc p ((aA 24).body.drop 6) d4 (λU=>ai .none))
noncomputable def FA (L:cy) (p:ay) (X:I) (ah:I):aD I:=Y (bC L p 198 (bP (H X) (H ah))) λt3=>tw t3 λfj e8 cV=>Y (b7 (pL (H cV)) (ak 2) (ak 1)) λf_=>b7 (b_ .Gt (aU p .Add (H fj) (aU p .Mult (H f_) (H e8))) (ck L p (ai (.bi "len")) (bh (H X)))) (no) (b7 (Y (pL (H cV)) λgk=>ai (!gk)) (eM (bP (ck L p (ai (.type "list")) (bh (Y (H X) λpC=>Y (H fj) λoK=>Y (aU p .Add (H fj) (H e8)) λpD=>Y (ai .none) λgA=>slice p pC oK pD gA))) (aU p .Add (H fj) (H e8)))) (Y (Y (ai []) (iK p)) λqB=>Y (ck L p (ai (.type "range")) (bh (H e8))) λvH=>jL L p 93 (aA 24).sc G4 Hq vH (Hg L p) (zz X ah fj e8 cV f_ qB .undef .undef)))
theorem J4:body L p 205 [X,ah]=FA L p X ah:=by kernel_rfl
theorem ahH:asg L 93 (aA 24).sc p 3 Hq w (zz X ah aB aK aX bg bS cv dc) au=(au (zz X ah aB aK aX bg bS w dc)):=by kernel_rfl
noncomputable abbrev DV (X:I):aL:=[(("self":Str),X)]
noncomputable def L9:List Stmt:=iG (c6 (cU 35 1).body)
noncomputable def My:Expr:=fO (c6 (cU 35 1).body) 0
noncomputable def Ml (L:cy) (p:ay):aL->aD I:=(λd4=>c5 L 99 (cU 35 1).sc p ((cU 35 1).body.drop 1) d4 (λU=>ai .none))
noncomputable def aaB (L:cy) (p:ay) (X:I):aD I:=uw (λJ=>gv L 98 (cU 35 1).sc p J My) (λJ k=>c5 L 98 (cU 35 1).sc p L9 J k) (Ml L p) 1000 (DV X)
theorem Zc:body L p 248 [X]=aaB L p X:=by kernel_rfl
theorem ahi:Ml L p (DV X)=(a_ (H X) "steps"):=by kernel_rfl
theorem agL:c5 L 98 (cU 35 1).sc p L9 (DV X) au=(b7 (b_ .GtE (a_ (H X) "steps") (a_ (H X) "most_steps")) (no) (Y (aU p .Add (a_ (H X) "steps") (ak 1)) λfY=>er (H X) "steps" fY (eH (cQ L p (H X) "step" (ai [])) (au (DV X))))):=by kernel_rfl
theorem TV:gv L 98 (cU 35 1).sc p (DV X) My=(Y (Y (cQ L p (a_ (H X) "place") "is_over" (ai [])) truth) λmC=>ai (!mC)):=by kernel_rfl
noncomputable abbrev Bl (X ah aB aK aX bg:I):aL:=[(("self":Str),X),(("place":Str),ah),(("begin":Str),aB),(("op":Str),aK),(("numbers":Str),aX),(("number":Str),bg)]
noncomputable def L_:List Stmt:=iG (c6 ((iG (c6 ((cU 35 2).body.drop 4)))).tail)
noncomputable def Mz:Expr:=fO (c6 ((iG (c6 ((cU 35 2).body.drop 4)))).tail) 0
noncomputable def Hh (L:cy) (p:ay):aL->aD I:=(λd4=>c5 L 92 (cU 35 2).sc p (((iG (c6 ((cU 35 2).body.drop 4)))).tail).tail d4 (λgq=>c5 L 95 (cU 35 2).sc p ((cU 35 2).body.drop 5) gq (λU=>ai .none)))
theorem ahI:asg L 91 (cU 35 2).sc p 3 Mz w (Bl X ah aB aK aX bg) au=(au (Bl X ah aB aK aX w)):=by kernel_rfl
noncomputable abbrev Bm (X ah aB aK aX bg bS cv:I):aL:=[(("work":Str),X),(("code":Str),ah),(("state":Str),aB),(("anchor":Str),aK),(("at":Str),aX),(("zone":Str),bg),(("turn":Str),bS),(("i":Str),cv)]
noncomputable def G5:List Stmt:=iG (c6 ((aA 90).body.drop 3))
noncomputable def MA:Expr:=fO (c6 ((aA 90).body.drop 3)) 0
noncomputable def Mm (L:cy) (p:ay):aL->aD I:=(λd4=>c5 L 96 (aA 90).sc p ((aA 90).body.drop 4) d4 (λU=>ai .none))
theorem ahJ:asg L 95 (aA 90).sc p 3 MA w (Bm X ah aB aK aX bg bS cv) au=(au (Bm X ah aB aK aX bg w cv)):=by kernel_rfl
noncomputable abbrev Bo (X ah aB aK aX bg bS cv dc eY fL gX ir:I):aL:=[(("work":Str),X),(("code":Str),ah),(("state":Str),aB),(("zone":Str),aK),(("end":Str),aX),(("first":Str),bg),(("last":Str),bS),(("whole":Str),cv),(("now":Str),dc),(("own":Str),eY),(("turn":Str),fL),(("i":Str),gX),(("distance":Str),ir)]
noncomputable def Ti:List Stmt:=iG (c6 ((aA 91).body.drop 7))
noncomputable def TX:Expr:=fO (c6 ((aA 91).body.drop 7)) 0
noncomputable def Mn (L:cy) (p:ay):aL->aD I:=(λd4=>c5 L 92 (aA 91).sc p ((aA 91).body.drop 8) d4 (λU=>ai .none))
theorem ahK:asg L 91 (aA 91).sc p 3 TX w (Bo X ah aB aK aX bg bS cv dc eY fL gX ir) au=(au (Bo X ah aB aK aX bg bS cv dc eY w gX ir)):=by kernel_rfl
noncomputable abbrev Bp (X ah:I):aL:=[(("found":Str),X),(("code":Str),ah)]
noncomputable def Tl:List Stmt:=iG (c6 ((aA 92).body.drop 3))
noncomputable def TY:Expr:=fO (c6 ((aA 92).body.drop 3)) 0
noncomputable def TL (L:cy) (p:ay):aL->aD I:=(λd4=>c5 L 96 (aA 92).sc p ((aA 92).body.drop 4) d4 (λU=>ai .none))
theorem ahL:asg L 95 (aA 92).sc p 3 TY w (Bp X ah) au=(au (Bp X w)):=by kernel_rfl
noncomputable abbrev Bq (X ah aB aK aX bg bS:I):aL:=[(("work":Str),X),(("code":Str),ah),(("zone":Str),aB),(("at":Str),aK),(("step":Str),aX),(("own":Str),bg),(("turn":Str),bS)]
noncomputable def Tn:List Stmt:=iG (c6 ((aA 125).body.drop 2))
noncomputable def TZ:Expr:=fO (c6 ((aA 125).body.drop 2)) 0
noncomputable def Mp (L:cy) (p:ay):aL->aD I:=(λd4=>c5 L 97 (aA 125).sc p ((aA 125).body.drop 3) d4 (λU=>ai .none))
theorem ahM:asg L 96 (aA 125).sc p 3 TZ w (Bq X ah aB aK aX bg bS) au=(au (Bq X ah aB aK aX bg w)):=by kernel_rfl
noncomputable abbrev Br (X ah aB aK aX:I):aL:=[(("work":Str),X),(("code":Str),ah),(("step":Str),aB),(("own":Str),aK),(("turn":Str),aX)]
noncomputable def To:List Stmt:=iG (c6 ((aA 130).body.drop 2))
noncomputable def T3:Expr:=fO (c6 ((aA 130).body.drop 2)) 0
noncomputable def Mq (L:cy) (p:ay):aL->aD I:=(λd4=>c5 L 97 (aA 130).sc p ((aA 130).body.drop 3) d4 (λU=>ai .none))
theorem ahN:asg L 96 (aA 130).sc p 3 T3 w (Br X ah aB aK aX) au=(au (Br X ah aB aK w)):=by kernel_rfl
noncomputable abbrev vA (X ah aB aK aX bg bS cv:I):aL:=[(("work":Str),X),(("code":Str),ah),(("base":Str),aB),(("zone":Str),aK),(("turn":Str),aX),(("i":Str),bg),(("argument":Str),bS),(("distance":Str),cv)]
noncomputable def Tp:List Stmt:=iG (c6 ((aA 131).body.drop 2))
noncomputable def T4:Expr:=fO (c6 ((aA 131).body.drop 2)) 0
noncomputable def TM (L:cy) (p:ay):aL->aD I:=(λd4=>c5 L 97 (aA 131).sc p ((aA 131).body.drop 3) d4 (λU=>ai .none))
theorem T5:asg L 96 (aA 131).sc p 3 T4 w (vA X ah aB aK aX bg bS cv) au=(au (vA X ah aB aK w bg bS cv)):=by kernel_rfl
noncomputable abbrev Bs (X ah aB aK aX bg bS cv:I):aL:=[(("zone":Str),X),(("axis":Str),ah),(("numbers":Str),aB),(("one":Str),aK),(("other":Str),aX),(("first":Str),bg),(("last":Str),bS),(("i":Str),cv)]
noncomputable def Tr:List Stmt:=iG (c6 ((aA 135).body.drop 2))
noncomputable def T6:Expr:=fO (c6 ((aA 135).body.drop 2)) 0
noncomputable def Mr (L:cy) (p:ay):aL->aD I:=(λd4=>c5 L 97 (aA 135).sc p ((aA 135).body.drop 3) d4 (λU=>ai .none))
theorem ahO:asg L 96 (aA 135).sc p 3 T6 w (Bs X ah aB aK aX bg bS cv) au=(au (Bs X ah aB aK aX bg bS w)):=by kernel_rfl
noncomputable abbrev zA (X ah aB aK aX bg bS cv dc:I):aL:=[(("zone":Str),X),(("axis":Str),ah),(("first":Str),aB),(("last":Str),aK),(("touched":Str),aX),(("at":Str),bg),(("one":Str),bS),(("other":Str),cv),(("numbers":Str),dc)]
noncomputable def yo:Expr:=(fO (c6 (aA 136).body) 0)
noncomputable def As:Scope:=kq (oq yo) (aA 136).sc
noncomputable abbrev Nh (fL ah X:I):aL:=[((".0":Str),.undef),(("i":Str),fL),(("axis":Str),ah),(("zone":Str),X)]
noncomputable def G6:List Stmt:=iG (c6 ((aA 136).body.drop 2))
noncomputable def Hr:Expr:=fO (c6 ((aA 136).body.drop 2)) 0
noncomputable def A2 (L:cy) (p:ay):aL->aD I:=(λd4=>c5 L 97 (aA 136).sc p ((aA 136).body.drop 3) d4 (λU=>ai .none))
theorem aa8:eK L 97 As p (Nh fL ah X) (ee yo 0)=(H fL):=by kernel_rfl
theorem abz:gv L 97 As p (Nh fL ah X) (ee yo 2)=(Y (aV (aV (a_ (H X) "touched") (H fL)) (H ah)) truth):=by kernel_rfl
theorem ahP:asg L 96 (aA 136).sc p 3 Hr w (zA X ah aB aK aX bg bS cv dc) au=(au (zA X ah aB aK aX w bS cv dc)):=by kernel_rfl
noncomputable abbrev Bt (X ah aB aK aX bg bS:I):aL:=[(("work":Str),X),(("code":Str),ah),(("axis":Str),aB),(("zone":Str),aK),(("contour":Str),aX),(("first":Str),bg),(("last":Str),bS)]
noncomputable def Ma:List Stmt:=iG (c6 ((aA 137).body.drop 2))
noncomputable def MB:Expr:=fO (c6 ((aA 137).body.drop 2)) 0
noncomputable def Hi (L:cy) (p:ay):aL->aD I:=(λd4=>c5 L 97 (aA 137).sc p ((aA 137).body.drop 3) d4 (λU=>ai .none))
theorem ahQ:asg L 96 (aA 137).sc p 3 MB w (Bt X ah aB aK aX bg bS) au=(au (Bt X ah aB aK w bg bS)):=by kernel_rfl
noncomputable abbrev Bu (X ah:I):aL:=[(("found":Str),X),(("code":Str),ah)]
noncomputable def Tu:List Stmt:=iG (c6 ((aA 138).body.drop 3))
noncomputable def T7:Expr:=fO (c6 ((aA 138).body.drop 3)) 0
noncomputable def TQ (L:cy) (p:ay):aL->aD I:=(λd4=>c5 L 96 (aA 138).sc p ((aA 138).body.drop 4) d4 (λU=>ai .none))
theorem ahR:asg L 95 (aA 138).sc p 3 T7 w (Bu X ah) au=(au (Bu X w)):=by kernel_rfl
noncomputable def Qs (L:cy) (p:ay):aD I:=Y (bC L p 501 (ai [])) λt3=>eH (cQ L p (H t3) "update" (bh (bC L p 648 (ai [])))) (eH (cQ L p (H t3) "update" (bh (bC L p 945 (ai [])))) (H t3))
theorem ZU:body L p 952 []=Qs L p:=by kernel_rfl
noncomputable def P_ (L:cy) (p:ay):aD I:=Y (ck L p (ai (.type "dict")) (bh (bC L p 842 (ai [])))) λe8=>eH (cQ L p (H e8) "update" (bh (bC L p 1071 (ai [])))) (eH (cQ L p (H e8) "update" (bh (bC L p 952 (ai [])))) (H e8))
theorem YD:body L p 1078 []=P_ L p:=by kernel_rfl
noncomputable def Kr:Expr:=(fO (c6 (cU 171 0).body) 0)
noncomputable def QO:Scope:=kq (oq Kr) (cU 171 0).sc
noncomputable abbrev Vt (bg:I):aL:=[((".0":Str),.undef),(("point":Str),bg)]
noncomputable def Ks:Expr:=(fO (c6 ((cU 171 0).body.drop 1)) 0)
noncomputable def QS:Scope:=kq (oq Ks) (cU 171 0).sc
noncomputable abbrev Vu (bg:I):aL:=[((".0":Str),.undef),(("point":Str),bg)]
noncomputable def Ku:Expr:=(fO (c6 ((cU 171 0).body.drop 2)) 0)
noncomputable def QT:Scope:=kq (oq Ku) (cU 171 0).sc
noncomputable abbrev Vv (bg:I):aL:=[((".0":Str),.undef),(("point":Str),bg)]
end
theorem AQ (h:sQ a=false):aJ (c+1) p a aa C=match body (aJ c) (C.k::p) a aa ⟨C.h,0⟩with
  |some (v,aT)=>some (v,⟨jt (C.k::p) C.h aT.h,C.k+1⟩)
  |none=>none:=by
 unfold aJ
 rw[h,bX (by decide)]
 unfold Iu
 dsimp only
 cases body (aJ c) (C.k::p) a aa ⟨C.h,0⟩<;>rfl
theorem vc (h:sQ a=true):aJ (c+1) p a aa C=match body (aJ c) (C.k::p) a aa ⟨C.h,0⟩with
  |some (v,aT)=>some (v,⟨aT.h,C.k+1⟩)
  |none=>none:=by
 unfold aJ
 rw[h,bT rfl]
 unfold sub
 dsimp only
 cases body (aJ c) (C.k::p) a aa ⟨C.h,0⟩<;>rfl
theorem p8 (q) (h):jt q h h=h:=by funext r;unfold jt;split<;>rfl
section
theorem je (i):H (.int i)=ai (.int i):=rfl
theorem tT (i):H (.bool i)=ai (.bool i):=rfl
theorem qi (i):H (.ref i)=ai (.ref i):=rfl
theorem F1 (i):H (.tup i)=ai (.tup i):=rfl
theorem Av (i):H (.bytes i)=ai (.bytes i):=rfl
theorem QY (i):H (.at i)=ai (.at i):=rfl
theorem F2:H .none=ai .none:=rfl
theorem F3 (i):H (.str i)=ai (.str i):=rfl
theorem apk (a b):H (.eo a b)=ai (.eo a b):=rfl
theorem ao9 (a) (f:b9->aD ef):Y (ai a) f=f a:=rfl
theorem apa (f:b9->aD ef):Y (no:aD b9) f=no:=rfl
theorem apb (a b f):ie (.tup [a,b]) f=f a b:=rfl
theorem abA (a b c f):tw (.tup [a,b,c]) f=f a b c:=rfl
theorem apc (a b c d f):Oj (.tup [a,b,c,d]) f=f a b c d:=rfl
theorem yr (a b):r3 [a,b]=ai (.tup [a,b]):=rfl
theorem QX (a b c):r3 [a,b,c]=ai (.tup [a,b,c]):=rfl
theorem apd (i):s3 (.int i)=ai (.int (-i)):=rfl
theorem wC (b):truth (.bool b)=ai b:=rfl
theorem FY (p a b):fk p .Add (.int a) (.int b)=ai (.int (a+b)):=rfl
theorem KI (p a b):fk p .Sub (.int a) (.int b)=ai (.int (a -b)):=rfl
theorem FZ (a b):dX .Eq (.int a) (.int b)=ai (decide (a=b)):=rfl
theorem ape (a b):dX .NotEq (.int a) (.int b)=ai (decide (a≠b)):=rfl
theorem Au (a b):dX .Lt (.int a) (.int b)=ai (decide (a<b)):=rfl
theorem KJ (a b):dX .LtE (.int a) (.int b)=ai (decide (a<=b)):=rfl
theorem KL (a b):dX .Gt (.int a) (.int b)=ai (decide (b<a)):=rfl
theorem abB (a b):dX .GtE (.int a) (.int b)=ai (decide (b<=a)):=rfl
theorem apf (a b):dX .Eq (.bool a) (.bool b)=ai (a==b):=rfl
theorem apg (a b):dX .NotEq (.bool a) (.bool b)=ai (!(a==b)):=rfl
theorem kr (a:b9) (C):ai a C=some (a,C):=rfl
theorem ku (m) (f:b9->aD ef) (C):Y m f C=match m C with|some (a,aT)=>f a aT|none=>none:=rfl
theorem F0 (p o C):new p o C=some (.ref (C.k::p),⟨C.h.set (C.k::p) o,C.k+1⟩):=rfl
theorem aph (r o C):upd r o C=some ((),⟨C.h.set r o,C.k⟩):=rfl
theorem api (a:b9):gU (some a)=ai a:=rfl
theorem tU (L p b aa):fz L p (.bi b) aa=builtin p b aa:=rfl
theorem CC (L p b aa):fz L p (.type b) aa=jk p b aa:=rfl
theorem apj (r C):obj r C=match C.h r with|some o=>some (o,C)|none=>none:=rfl
end
theorem sY (az:-18446744073709551616<a) (aE:a<18446744073709551616):mV a b=true:=by
 unfold mV;simp;exact .inl ⟨az,aE⟩
theorem sZ (az:-18446744073709551616<b) (aE:b<18446744073709551616):mV a b=true:=by
 unfold mV;simp;exact .inr ⟨az,aE⟩
theorem h9 (e:m C=some (a,oi)) (r:f a oi=D):Y m f C=D:=by unfold Y;rw[e];exact r
theorem aao (m) (f:b9->aD ef) (g:ef->aD Jp):Y (Y m f) g=Y m λa=>Y (f a) g:=by
 funext C;unfold Y;cases m C with
 |none=>rfl
 |some q=>rfl
theorem Fq (h:mV a b=true):fk p .Mult (.int a) (.int b)=ai (.int (a*b)):=by show(if mV a b then _ else _)=_;rw[h];rfl
theorem yh (h:b≠0) (az:-1073741824<b) (aE:b<1073741824):fk p .FloorDiv (.int a) (.int b)=ai (.int (a.fdiv b)):=by
 show(if decide (b≠0)&&(decide (-1073741824<b)&&decide (b<1073741824))then _ else _)=_
 rw[iU h,iU az,iU aE];rfl
theorem J7 (h:b≠0):fk p .Mod (.int a) (.int b)=ai (.int (a.fmod b)):=by
 show(if decide (b≠0)then _ else _)=_
 rw[iU h];rfl
theorem aaN (a) (h:jc.lookup a=none):fz L p (.at a) aa=L p a aa:=by
 show(match jc.lookup a with|some c=>_|none=>_)=_
 rw[h]
noncomputable def ic (a b c:Int):Int:=
 if(if c<0 then 0 -a*b else a*b)<0 then 0 -(0 -2*(if c<0 then 0 -a*b else a*b)+(if c<0 then 0 -c else c)).fdiv (2*(if c<0 then 0 -c else c))
 else(2*(if c<0 then 0 -a*b else a*b)+(if c<0 then 0 -c else c)).fdiv (2*(if c<0 then 0 -c else c))
end Mine
namespace Mine.lK
structure T where
 now:List (Int×Int)
 cF:List (Int×Int)
 cD:List (Bool×Bool)
 bf:List Int
 told:List Int
 cI:Nat
 cT:Nat
 dO:Nat
 round:Int
 cL:Bool
structure fF where
 t:T
 loop:Int
 gc:ay
 pc:Int
 steps:Int
 code:List Nat
 ends:List Int
 xg:List I
noncomputable abbrev e9 (q:Int×Int):I:=.tup [.int q.1,.int q.2]
noncomputable abbrev lO (b:Bool):I:=.tup [.int (if b then 0 else 16384),.int (if b then 16384 else 0)]
set_option genCtorIdx true in
inductive oj where
 |work|ux|state|ru|stack|BA|Ew|Ex|cR|zQ|mT|Dp|place|DF|CL|CM|xM|EB|Ey|EC|Ez|EA|zl|cur|cD|ends|xg|nums|bf|D9|calls|ops|CJ|CK|jF (i:Nat)|ex (r:ay)
structure fy where
 f:oj->ay
 g:ay->Option oj
 ex:ay->Option cw
 CQ:∀i,(∀r,i=.ex r->ex r≠none)->g (f i)=some i
 oY:∀r i,g r=some i->r=f i
noncomputable def bA (i:Int) (a:Addr):Int×I:=(i,.at a)
noncomputable def q_:List (Int×I):=[bA 32 655,bA 33 662,bA 34 669,bA 35 676,bA 36 683,bA 37 690,bA 38 695,bA 138 702,bA 142 709,bA 79 662,bA 126 662,bA 127 662,bA 133 662,bA 141 662,bA 92 730,bA 86 737,bA 87 737,bA 66 779,bA 67 786,bA 68 793,bA 69 807,bA 112 800,bA 75 828,bA 76 828,bA 136 835,bA 80 723,bA 81 723,bA 82 723,bA 83 723,bA 84 723,bA 85 723,bA 90 723,bA 91 723,bA 96 751,bA 97 751,bA 98 751,bA 99 751,bA 139 751,bA 140 751,bA 100 758,bA 101 758,bA 102 758,bA 103 758,bA 104 765,bA 108 772,bA 105 765,bA 109 772,bA 106 765,bA 110 772,bA 107 765,bA 111 772,bA 115 821,bA 116 821,bA 117 821,bA 10 1001,bA 11 1001,bA 12 1008,bA 13 1008,bA 14 1015,bA 23 1036,bA 77 1050,bA 78 1050,bA 118 1064,bA 119 1064,bA 134 994,bA 135 994,bA 0 966,bA 1 966,bA 2 966,bA 3 966,bA 4 966,bA 5 966,bA 6 987,bA 7 987,bA 8 987,bA 9 987,bA 16 1022,bA 17 1022,bA 18 1022,bA 19 1029,bA 20 1029,bA 21 1029,bA 22 1029,bA 26 1043,bA 29 1043,bA 30 1043,bA 31 1043,bA 94 1043,bA 95 1043,bA 24 1057,bA 25 1057,bA 61 1057,bA 122 1057,bA 124 1057,bA 125 1057,bA 15 466,bA 39 473,bA 41 480,bA 70 438,bA 71 438,bA 72 445,bA 73 452,bA 74 452,bA 128 487,bA 129 494,bA 130 494,bA 46 585,bA 47 585,bA 62 592,bA 63 592,bA 58 627,bA 59 627,bA 60 634,bA 57 641,bA 192 613,bA 224 620,bA 193 613,bA 225 620,bA 194 613,bA 226 620,bA 195 613,bA 227 620,bA 196 613,bA 228 620,bA 197 613,bA 229 620,bA 198 613,bA 230 620,bA 199 613,bA 231 620,bA 200 613,bA 232 620,bA 201 613,bA 233 620,bA 202 613,bA 234 620,bA 203 613,bA 235 620,bA 204 613,bA 236 620,bA 205 613,bA 237 620,bA 206 613,bA 238 620,bA 207 613,bA 239 620,bA 208 613,bA 240 620,bA 209 613,bA 241 620,bA 210 613,bA 242 620,bA 211 613,bA 243 620,bA 212 613,bA 244 620,bA 213 613,bA 245 620,bA 214 613,bA 246 620,bA 215 613,bA 247 620,bA 216 613,bA 248 620,bA 217 613,bA 249 620,bA 218 613,bA 250 620,bA 219 613,bA 251 620,bA 220 613,bA 252 620,bA 221 613,bA 253 620,bA 222 613,bA 254 620,bA 223 613,bA 255 620,bA 48 938,bA 49 938,bA 50 856,bA 51 856,bA 52 877,bA 53 877,bA 56 891,bA 54 884,bA 55 884,bA 93 898,bA 113 898,bA 114 898]
noncomputable def cont (N:fy) (B:fF):oj->Option cw
 | .work=>some (.inst 1230 (N.f .ux))
 | .ux=>some (.attrs [("state",.ref (N.f .state)),("stack",.ref (N.f .stack)),("zones",.ref (N.f .xM)),("cvt",.ref (N.f .bf)),("storage",.ref (N.f .D9)),("ppem",.int 12),("point_size",.int 768),("scale",.tup [.int 1,.int 1])])
 | .state=>some (.inst 1123 (N.f .ru))
 | .ru=>some (.attrs [("freedom",lO B.t.cL),("projection",lO B.t.cL),("dual",lO B.t.cL),("rp0",.int B.t.cI),("rp1",.int B.t.cT),("rp2",.int B.t.dO),("zp0",.int 1),("zp1",.int 1),("zp2",.int 1),("loop",.int B.loop),("minimum",.int 64),("cut_in",.int 68),("single_cut_in",.int 0),("single_width",.int 0),("delta_base",.int 9),("delta_shift",.int 3),("auto_flip",.bool true),("rounding",.ref B.gc)])
 | .stack=>some (.inst 1179 (N.f .BA))
 | .BA=>some (.attrs [("most",.int 64),("numbers",.ref (N.f .nums))])
 | .Ew=>some (.inst 1272 (N.f .Ex))
 | .Ex=>some (.attrs [("original",.ref (N.f .EB)),("current",.ref (N.f .Ey)),("touched",.ref (N.f .EC)),("ends",.ref (N.f .Ez)),("on_curve",.ref (N.f .EA))])
 | .cR=>some (.inst 1272 (N.f .zQ))
 | .zQ=>some (.attrs [("original",.ref (N.f .zl)),("current",.ref (N.f .cur)),("touched",.ref (N.f .cD)),("ends",.ref (N.f .ends)),("on_curve",.ref (N.f .xg))])
 | .mT=>some (.inst 279 (N.f .Dp))
 | .Dp=>some (.attrs [("place",.ref (N.f .place)),("work",.ref (N.f .work)),("ops",.ref (N.f .ops)),("functions",.ref (N.f .CL)),("most_steps",.int 10000),("steps",.int B.steps)])
 | .place=>some (.inst 173 (N.f .DF))
 | .DF=>some (.attrs [("code",.bytes B.code),("at",.int B.pc),("calls",.ref (N.f .calls)),("most_calls",.int 32)])
 | .CL=>some (.inst 103 (N.f .CM))
 | .CM=>some (.attrs [("functions",.ref (N.f .CJ)),("instructions",.ref (N.f .CK))])
 | .xM=>some (.list [.ref (N.f .Ew),.ref (N.f .cR)])
 | .EB=>some (.list [])
 | .Ey=>some (.list [])
 | .EC=>some (.list [])
 | .Ez=>some (.list [])
 | .EA=>some (.list [])
 | .zl=>some (.list (B.t.cF.map e9))
 | .cur=>some (.list (B.t.now.map e9))
 | .cD=>some (.list ((List.range B.t.cD.length).map λi=>.ref (N.f (.jF i))))
 | .ends=>some (.list (B.ends.map I.int))
 | .xg=>some (.list B.xg)
 | .nums=>some (.list (B.t.told.map I.int))
 | .bf=>some (.list (B.t.bf.map I.int))
 | .D9=>some (.cB [])
 | .calls=>some (.list [])
 | .ops=>some (.cB q_)
 | .CJ=>some (.cB [])
 | .CK=>some (.cB [])
 | .jF i=>match B.t.cD[i]? with
  |some q=>some (.list [.bool q.1,.bool q.2])
  |none=>none
 | .ex r=>N.ex r
noncomputable def aq (N:fy) (G:bl) (B:fF):bl:=λr=>match N.g r with
 |some i=>(match cont N B i with
  |some o=>some o
  |none=>G r)
 |none=>G r
section
variable {N:fy} {G:bl} {B:fF}
theorem Lc {i:oj} {o:cw} (h:cont N B i=some o):N.g (N.f i)=some i:=N.CQ i λr e z=>by
 subst e;rw[show cont N B (.ex r)=N.ex r from rfl,z]at h;cases h
theorem g7 {i:oj} {o:cw} (h:cont N B i=some o):aq N G B (N.f i)=some o:=by
 unfold aq;rw[Lc h];dsimp only;rw[h]
theorem za {i:oj} {o:cw} (h:cont N bU i=some o) (bH:∀j,j≠i->cont N bU j=cont N B j):(aq N G B).set (N.f i) o=aq N G bU:=by
 funext r
 unfold bl.set
 by_cases q:r=N.f i
 .rw[bT q,q,g7 h]
 .rw[bX q]
  unfold aq
  cases e:N.g r with
  |none=>rfl
  |some j=>
   have:j≠i:=λz=>q (by rw[N.oY _ _ e,z])
   dsimp only
   rw[bH j this]
theorem mP {r d:ay} (az:C.h r=some (.inst aH d)) (aE:C.h d=some (.attrs l)) (aY:pO x=true) (aN:q2 aH=true) (aI:l.lookup x=some u) (j8:t4 u=true):fB (.ref r) x C=some (u,C):=by
 unfold fB
 rw[bT aY]
 simp only[Y,obj,az,aE,aN,jW,aI,gU,ai,j8]
theorem Io {r d:ay} (az:C.h r=some (.inst aH d)) (aE:C.h d=some (.attrs l)) (aY:pO x=true) (aN:q2 aH=true) (aI:decide (l.length<100)=true):lT (.ref r) x u C=some ((),⟨C.h.set d (.attrs (g9 l x u)),C.k⟩):=by
 unfold lT
 rw[bT aY]
 simp only[Y,obj,az,aE,aN,aI,Bool.and_self,jW,upd]
theorem Up {r d:ay} (az:C.h r=some (.inst aH d)) (aE:C.h d=some (.attrs l)) (aI:(l.lookup x).isNone=true) (aN:jc.lookup aH=some c) (bM:c.meths.lookup x=some a):i0 (.ref r) x C=some (.at a,C):=by
 unfold i0
 simp only[Y,obj,az,aE,aI,jW,aN,bM,gU,ai]
theorem zF {i d:oj} {aH:Addr} (az:cont N B i=some (.inst aH (N.f d))) (aE:cont N B d=some (.attrs l)) (aY:pO x=true) (aN:q2 aH=true) (aI:decide (l.length<100)=true) (b8:cont N bU d=some (.attrs (g9 l x u)))
  (h:∀j,j≠d->cont N bU j=cont N B j):lT (.ref (N.f i)) x u ⟨aq N G B,k⟩=some ((),⟨aq N G bU,k⟩):=by
 rw[Io (g7 az) (g7 aE) aY aN aI,za b8 h]
noncomputable def Mh (o:Option cw) (aH:Addr) (x:Str):Option I:=match o with
 |some (.attrs l)=>bif pO x&&q2 aH then match l.lookup x with
  |some u=>bif t4 u then some u else none
  |none=>none else none
 |_=>none
theorem ag9 {o:Option cw} {aH:Addr} {x:Str} {u:I} (h:Mh o aH x=some u) {P:Prop} (k:∀l,o=some (.attrs l)->pO x=true->q2 aH=true->l.lookup x=some u->t4 u=true->P):P:=by
 rcases o with _|o
 .exact fK h
 .induction o with
  |attrs l=>
   unfold Mh at h
   dsimp only at h
   cases e:pO x&&q2 aH
   .rw[e]at h;exact fK h
   .rw[e]at h
    cases f:l.lookup x with
    |none=>rw[f]at h;exact fK h
    |some v=>
     rw[f]at h
     have h:(bif t4 v then some v else none)=some u:=h
     cases g:t4 v
     .rw[g]at h;exact fK h
     .rw[g]at h
      have a:=Bool.and_eq_true_iff.mp e
      exact k l rfl a.1 a.2 (iH h▸f) (iH h▸g)
  |_=>exact fK h
theorem iQ {i d:oj} {aH:Addr} {x:Str} {u:I} (az:cont N B i=some (.inst aH (N.f d))) (aE:Mh (cont N B d) aH x=some u):fB (.ref (N.f i)) x ⟨aq N G B,k⟩=some (u,⟨aq N G B,k⟩):=
 ag9 aE λl a b c e f=>mP (g7 az) (g7 a) b c e f
theorem qZ {i d:oj} {aH:Addr} {l:List (Str×I)} {x:Str} {c:Jt} {a:Addr} (az:cont N B i=some (.inst aH (N.f d))) (aE:cont N B d=some (.attrs l)) (aI:(l.lookup x).isNone=true) (aN:jc.lookup aH=some c) (bM:c.meths.lookup x=some a):i0 (.ref (N.f i)) x ⟨aq N G B,k⟩=some (.at a,⟨aq N G B,k⟩):=
 Up (g7 az) (g7 aE) aI aN bM
theorem An (d4 gq gW) (nG) (gc) (x) (j) (aW:j≠.ru):cont N {B with loop:=nG,gc:=gc,t:={B.t with cI:=d4,cT:=gq,dO:=gW,cL:=x}} j=cont N B j:=by rcases j with _|_<;>first|rfl|exact absurd rfl aW
end
theorem eU:(∀L p aa,fz L p (.at 149) aa=L p 149 aa)/\(∀L p aa,fz L p (.at 248) aa=L p 248 aa)/\(∀L p aa,fz L p (.at 255) aa=L p 255 aa)/\(∀L p aa,fz L p (.at 1099) aa=L p 1099 aa)/\(∀L p aa,fz L p (.at 1106) aa=L p 1106 aa)/\(∀L p aa,fz L p (.at 1113) aa=L p 1113 aa)/\(∀L p aa,fz L p (.at 1148) aa=L p 1148 aa)/\(∀L p aa,fz L p (.at 1155) aa=L p 1155 aa)/\(∀L p aa,fz L p (.at 1206) aa=L p 1206 aa)/\(∀L p aa,fz L p (.at 1213) aa=L p 1213 aa)/\(∀L p aa,fz L p (.at 1220) aa=L p 1220 aa)/\(∀L p aa,fz L p (.at 1227) aa=L p 1227 aa)/\(∀L p aa,fz L p (.at 1262) aa=L p 1262 aa)/\(∀L p aa,fz L p (.at 1269) aa=L p 1269 aa)/\(∀L p b aa,fz L p (.bi b) aa=builtin p b aa)/\(∀L p b aa,fz L p (.type b) aa=jk p b aa):=
 ⟨λU U U=>rfl,λU U U=>rfl,λU U U=>rfl,λU U U=>rfl,λU U U=>rfl,λU U U=>rfl,λU U U=>rfl,λU U U=>rfl,λU U U=>rfl,λU U U=>rfl,λU U U=>rfl,λU U U=>rfl,λU U U=>rfl,λU U U=>rfl,λU U U U=>rfl,λU U U U=>rfl⟩
def c4 (N:fy) (q:ay):Prop:=∀i,¬q<:+N.f i
theorem c4.sub {N:fy} (h:c4 N q) (j):c4 N (j::q):=λi z=>h i ((uC j q).trans z)
section
variable {N:fy} {G bu:bl} {B bU:fF}
set_option tactic.hygienic true in
theorem DQ (Z:c4 N q):jt q (aq N G B) (aq N bu bU)=aq N (jt q G bu) bU:=by
 funext r
 unfold jt
 split
 .rename_i aR
  unfold aq
  cases e:N.g r with
  |none=>dsimp only;rw[bT aR]
  |some i=>exact absurd (List.isSuffixOf_iff_suffix.mp aR) (by rw[N.oY _ _ e];exact Z i)
 .rename_i aR
  unfold aq
  cases e:N.g r with
  |none=>dsimp only;rw[bX aR]
  |some i=>
   dsimp only
   cases cont N bU i with
   |some o=>rfl
   |none=>dsimp only;rw[bX aR]
theorem aic {n:ay} (Z:c4 N q) (bG:q<:+n):(aq N G B).set n o=aq N (G.set n o) B:=by
 have h:∀i,n≠N.f i:=λi z=>Z i (z▸bG)
 funext r
 unfold bl.set aq
 by_cases e:r=n
 .subst e
  rw[bT rfl]
  cases e:N.g r with
  |none=>dsimp only;rw[bT rfl]
  |some i=>exact absurd (N.oY _ _ e) (h i)
 .rw[bX e]
  cases N.g r with
  |none=>dsimp only;rw[bX e]
  |some i=>dsimp only;rw[bX e]
set_option tactic.hygienic true in
theorem VD (bG:q<:+n):jt q G (bu.set n o)=jt q G bu:=by
 funext r
 unfold jt bl.set
 split
 .rfl
 .rename_i aR
  rw[bX λz=>aR (List.isSuffixOf_iff_suffix.mpr (by rw[z];exact bG))]
end
noncomputable def d9 (b:Bool) (q:Int×Int):Int:=if b then q.2 else q.1
noncomputable def up (b:Bool) (q:Int×Int) (v:Int):Int×Int:=if b then(q.1,v)else(v,q.2)
theorem Uk (x):ic (x*16384) 1 16384=x:=by
 unfold ic
 have e:∀y:Int,y.fdiv 32768=y/32768:=λy=>EN y (by decide)
 simp only[Int.mul_one,show¬(16384:Int)<0 by decide,xN,show(2:Int)*16384=32768 by decide,e]
 split<;>omega
theorem Ul (d):ic d 16384 16384=d:=by
 have:=Uk d
 unfold ic at this ⊢
 simpa using this
theorem Um (d):ic d 0 16384=0:=by
 unfold ic;simp
end Mine.lK
namespace Mine.Q
inductive gw|BD (m:aD I)|pr (m:aD I) (k:I->gw)
@[reducible] noncomputable def run:gw->aD I
 | .BD m=>m
 | .pr m k=>Y m λv=>run (k v)
noncomputable abbrev hd (c:gw):aD I:=match c with| .pr m _=>m|_=>no
noncomputable abbrev vo (c:gw) (v:I):gw:=match c with| .pr _ k=>k v|c=>c
noncomputable def go (c:gw) (C:bL):Option (I×bl):=match run c C with
 |some q=>some (q.1,q.2.h)
 |none=>none
theorem B {c:gw} {C aT:bL} (h:hd c C=some (v,aT)) (r:go (vo c v) aT=D):go c C=D:=by
 cases c with
 |pr m k=>show(match Y m _ C with|some q=>some (q.1,q.2.h)|none=>none)=D;unfold Y;rw[show m C=some (v,aT)from h];exact r
 |_=>cases h
theorem bx {c:gw} {C aT:bL} (h:hd c C=some (v,aT)) (r:run (vo c v) aT=D):run c C=D:=by
 cases c with
 |pr m k=>show Y m _ C=D;unfold Y;rw[show m C=some (v,aT)from h];exact r
 |_=>cases h
noncomputable abbrev bv (k:Bool->gw) (v:I):gw:=match v with| .bool true=>k true|_=>k false
noncomputable def dK (m:aD Bool):aD I:=Y m λt=>ai (.bool t)
noncomputable def j3 (m:aD Unit):aD I:=Y m λU=>ai .none
theorem ah5 (m:aD Bool) (k:Bool->gw) (C):Y (dK m) (λv=>run (bv k v)) C=Y m (λt=>run (k t)) C:=by
 unfold dK Y;cases m C with
 |none=>rfl
 |some q=>induction q with|mk t aT=>rcases t with _|_<;>rfl
theorem MI (m:aD Unit) (k:gw) (C):Y (j3 m) (λU=>run k) C=Y m (λU=>run k) C:=by
 unfold j3 Y;cases m C<;>rfl
theorem iC (h:m C=some (t,aT)):dK m C=some (.bool t,aT):=by unfold dK Y;rw[h];rfl
theorem gy {m:aD Unit} {C aT:bL} (h:m C=some ((),aT)):j3 m C=some (.none,aT):=by unfold j3 Y;rw[h];rfl
structure bF (b9:Type) where
 bB:aD b9
 cps:(b9->gw)->gw
 ok:∀k C,run (cps k) C=Y bB (λa=>run (k a)) C
section
theorem jY (m:aD b9) (f:b9->aD ef) (g:ef->aD I) (C):Y (Y m f) g C=Y m (λa=>Y (f a) g) C:=eZ (aao m f g) C
theorem mO (h:∀a C,f a C=g a C):Y m f C=Y m g C:=by unfold Y;cases m C with|none=>rfl|some q=>exact h _ _
noncomputable abbrev ai (a:b9):bF b9:=⟨Mine.ai a,λk=>k a,λU U=>rfl⟩
noncomputable abbrev no:bF b9:=⟨Mine.no,λU=>.BD Mine.no,λU U=>rfl⟩
noncomputable abbrev Y (m:bF b9) (f:b9->bF ef):bF ef:=⟨Mine.Y m.bB λa=>(f a).bB,λk=>m.cps λa=>(f a).cps k,λk C=>by
 rw[m.ok,jY];exact mO λa C=>(f a).ok k C⟩
noncomputable abbrev pr (m:aD I):bF I:=⟨m,.pr m,λU U=>rfl⟩
noncomputable abbrev qw (m:aD Bool):bF Bool:=⟨m,λk=>.pr (dK m) (bv k),λk C=>ah5 m k C⟩
noncomputable abbrev Gu (v:I) (k:I->gw):gw:=match v with
 | .undef=>.BD Mine.no| .none=>k .none| .int i=>k (.int i)| .ref r=>k (.ref r)| .tup l=>k (.tup l)| .bool b=>k (.bool b)| .str s=>k (.str s)| .bytes l=>k (.bytes l)
 | .type n=>k (.type n)| .bi n=>k (.bi n)| .at a=>k (.at a)| .eo a b=>k (.eo a b)
noncomputable abbrev H (v:I):bF I:=⟨Mine.H v,Gu v,λk C=>by rcases v with _|_<;>rfl⟩
noncomputable abbrev ak (i:Int):bF I:=⟨Mine.ak i,λk=>k (.int i),λU U=>rfl⟩
noncomputable abbrev ns (s:String):bF I:=⟨Mine.ns s,λk=>k (.str (Str.ofString s)),λU U=>rfl⟩
noncomputable abbrev fN (a:Addr):bF I:=⟨Mine.fN a,λk=>k (.at a),λU U=>rfl⟩
noncomputable abbrev s3 (v:I):bF I:=⟨Mine.s3 v,λk=>match v with| .int i=>k (.int (-i))|v=>.pr (Mine.s3 v) k,λk C=>by rcases v with _|_<;>rfl⟩
noncomputable abbrev X8 (p:ay) (x y:I) (k:I->gw):gw:=match x with
 | .int i=>(match y with| .int j=>k (.int (i+j))|y=>.pr (fk p .Add (.int i) y) k)
 |x=>.pr (fk p .Add x y) k
noncomputable abbrev amN (p:ay) (x y:I) (k:I->gw):gw:=match x with
 | .int i=>(match y with| .int j=>k (.int (i -j))|y=>.pr (fk p .Sub (.int i) y) k)
 |x=>.pr (fk p .Sub x y) k
noncomputable abbrev P6 (p:ay) (o:Operator) (x y:I) (k:I->gw):gw:=match o with
 | .Add=>X8 p x y k
 | .Sub=>amN p x y k
 |o=>.pr (fk p o x y) k
theorem aat (p:ay) (o:Operator) (x y) (k) (C):run (P6 p o x y k) C=Mine.Y (fk p o x y) (λv=>run (k v)) C:=by
 rcases o with _|_<;>try rfl
 .rcases x with _|_<;>try rfl
  rcases y with _|_<;>rfl
 .rcases x with _|_<;>try rfl
  rcases y with _|_<;>rfl
noncomputable abbrev aU (p:ay) (o:Operator) (a b:bF I):bF I:=⟨Mine.aU p o a.bB b.bB,λk=>a.cps λx=>b.cps λy=>P6 p o x y k,λk C=>by
 rw[a.ok];unfold Mine.aU;rw[jY];exact mO λx C=>by
  rw[b.ok,jY];exact mO λy C=>aat ..⟩
noncomputable abbrev b_ (o:CmpOp) (a b:bF I):bF Bool:=⟨Mine.b_ o a.bB b.bB,λk=>a.cps λx=>b.cps λy=>.pr (dK (dX o x y)) (bv k),λk C=>by
 rw[a.ok];unfold Mine.b_;rw[jY];exact mO λx C=>by
  rw[b.ok,jY];exact mO λy C=>(qw (dX o x y)).ok k C⟩
noncomputable abbrev w9 (b:Bool):Bool:=match b with|true=>false|false=>true
noncomputable abbrev ki (o:CmpOp) (a b:bF I):bF I:=⟨Mine.ki o a.bB b.bB,λk=>a.cps λx=>b.cps λy=>.pr (dK (dX o x y)) k,λk C=>by
 rw[a.ok];unfold Mine.ki;rw[jY];exact mO λx C=>by
  rw[b.ok,jY];rfl⟩
noncomputable abbrev aV (a b:bF I):bF I:=⟨Mine.aV a.bB b.bB,λk=>a.cps λx=>b.cps λy=>.pr (item x y) k,λk C=>by
 rw[a.ok];unfold Mine.aV;rw[jY];exact mO λx C=>by
  rw[b.ok,jY]⟩
noncomputable abbrev a_ (a:bF I) (s:String):bF I:=⟨Mine.a_ a.bB s,λk=>a.cps λx=>.pr (fB x (Str.ofString s)) k,λk C=>by
 rw[a.ok];unfold Mine.a_;rw[jY]⟩
noncomputable abbrev er (o:bF I) (s:String) (v:I) (r:bF I):bF I:=⟨Mine.er o.bB s v r.bB,λk=>o.cps λx=>.pr (j3 (lT x (Str.ofString s) v)) λU=>r.cps k,λk C=>by
 rw[o.ok];unfold Mine.er;rw[jY];exact mO λx C=>by rw[jY];exact(MI _ _ C).trans (mO λU C=>r.ok k C)⟩
noncomputable abbrev gT (o i:bF I) (v:I) (r:bF I):bF I:=⟨Mine.gT o.bB i.bB v r.bB,λk=>o.cps λx=>i.cps λy=>.pr (j3 (ju x y v)) λU=>r.cps k,λk C=>by
 rw[o.ok];unfold Mine.gT;rw[jY];exact mO λx C=>by
  rw[i.ok,jY];exact mO λy C=>by rw[jY];exact(MI _ _ C).trans (mO λU C=>r.ok k C)⟩
noncomputable abbrev dN (m:bF I) (l:bF (List I)):bF (List I):=⟨Mine.dN m.bB l.bB,λk=>m.cps λv=>l.cps λaa=>k (v::aa),λk C=>by
 rw[m.ok];unfold Mine.dN;rw[jY];exact mO λx C=>by rw[l.ok,jY];rfl⟩
noncomputable abbrev bh (a:bF I):bF (List I):=dN a (ai [])
noncomputable abbrev bP (a b:bF I):bF (List I):=dN a (dN b (ai []))
noncomputable abbrev dF (a b c:bF I):bF (List I):=dN a (dN b (dN c (ai [])))
noncomputable abbrev jw (a b c d:bF I):bF (List I):=dN a (dN b (dN c (dN d (ai []))))
noncomputable abbrev qC (a b c d e:bF I):bF (List I):=dN a (dN b (dN c (dN d (dN e (ai [])))))
noncomputable abbrev BI (a b c d e f:bF I):bF (List I):=dN a (dN b (dN c (dN d (dN e (dN f (ai []))))))
noncomputable abbrev WL (a b c d e f g:bF I):bF (List I):=dN a (dN b (dN c (dN d (dN e (dN f (dN g (ai [])))))))
noncomputable abbrev iK (p:ay) (aa:List I):bF I:=pr (Mine.iK p aa)
noncomputable abbrev r3 (aa:List I):bF I:=⟨Mine.r3 aa,λk=>match aa with|[a,b]=>k (.tup [a,b])|[a,b,c]=>k (.tup [a,b,c])|aa=>.pr (Mine.r3 aa) k,λk C=>by rcases aa with _|⟨a,_|⟨b,_|⟨c,_|⟨d,aa⟩⟩⟩⟩<;>rfl⟩
noncomputable abbrev e_ (p:ay) (l:bF (List I)):bF I:=⟨Mine.e_ p l.bB,λk=>l.cps λaa=>.pr (Mine.iK p aa) k,λk C=>by rw[l.ok];unfold Mine.e_;rw[jY]⟩
noncomputable abbrev eM (l:bF (List I)):bF I:=⟨Mine.eM l.bB,λk=>l.cps λaa=>(r3 aa).cps k,λk C=>by rw[l.ok];unfold Mine.eM;rw[jY];exact mO λaa C=>(r3 aa).ok k C⟩
noncomputable abbrev truth (v:I):bF Bool:=⟨Mine.truth v,λk=>match v with
 | .bool true=>k true| .bool false=>k false|v=>.pr (dK (Mine.truth v)) (bv k),λk C=>by
  have h:=(qw (Mine.truth v)).ok k C
  rcases v with _|(_|_)|_<;>first|rfl|exact h⟩
noncomputable abbrev pL (m:bF I):bF Bool:=⟨Mine.pL m.bB,λk=>m.cps λv=>(truth v).cps k,λk C=>by rw[m.ok];unfold Mine.pL;rw[jY];exact mO λv C=>(truth v).ok k C⟩
noncomputable abbrev ck (L:cy) (p:ay) (f:bF I) (l:bF (List I)):bF I:=⟨Mine.ck L p f.bB l.bB,λk=>f.cps λg=>l.cps λaa=>.pr (fz L p g aa) k,λk C=>by
 rw[f.ok];unfold Mine.ck;rw[jY];exact mO λx C=>by rw[l.ok,jY]⟩
noncomputable abbrev bC (L:cy) (p:ay) (a:Addr) (l:bF (List I)):bF I:=⟨Mine.bC L p a l.bB,λk=>l.cps λaa=>.pr (L p a aa) k,λk C=>by
 rw[l.ok];unfold Mine.bC;rw[jY]⟩
noncomputable abbrev cQ (L:cy) (p:ay) (o:bF I) (s:String) (l:bF (List I)):bF I:=⟨Mine.cQ L p o.bB s l.bB,λk=>o.cps λx=>.pr (i0 x (Str.ofString s)) λf=>l.cps λaa=>.pr (fz L p f (x::aa)) k,λk C=>by
 rw[o.ok];unfold Mine.cQ;rw[jY];exact mO λx C=>by
  rw[jY];exact mO λf C=>by rw[l.ok,jY]⟩
noncomputable abbrev ite (t:Bool) (a b:bF b9):bF b9:=⟨if t then a.bB else b.bB,λk=>match t with|true=>a.cps k|false=>b.cps k,λk C=>by rcases t with _|_;exact b.ok k C;exact a.ok k C⟩
noncomputable abbrev b7 (c:bF Bool) (a b:bF I):bF I:=⟨Mine.b7 c.bB a.bB b.bB,λk=>c.cps λt=>match t with|true=>a.cps k|false=>b.cps k,λk C=>by
 rw[c.ok];unfold Mine.b7;rw[jY];exact mO λt C=>by rcases t with _|_;exact b.ok k C;exact a.ok k C⟩
noncomputable def Cw (v:I):aD Unit:=if t7 v then Mine.ai ()else Mine.no
noncomputable abbrev aoM (v:I) (k:gw):gw:=match v with| .none=>k| .int _=>k|v=>.pr (j3 (Cw v)) λU=>k
noncomputable abbrev eH (e r:bF I):bF I:=⟨Mine.eH e.bB r.bB,λk=>e.cps λv=>aoM v (r.cps k),λk C=>by
 rw[e.ok];unfold Mine.eH;rw[jY];exact mO λv C=>by
  have h:∀v,Mine.Y (Cw v) (λU=>run (r.cps k)) C=Mine.Y (if t7 v then r.bB else Mine.no) (λa=>run (k a)) C:=λv=>by
   unfold Cw;cases t7 v
   .rfl
   .exact r.ok k C
  rcases v with _|_<;>first|exact r.ok k C|exact(MI _ _ C).trans (h _)⟩
noncomputable abbrev ie (v:I) (f:I->I->bF I):bF I:=⟨Mine.ie v λa b=>(f a b).bB,λk=>match v with| .tup [a,b]=>(f a b).cps k|_=>.BD Mine.no,λk C=>by
 cases v with
 |tup l=>rcases l with _|⟨a,_|⟨b,_|_⟩⟩<;>first|rfl|exact(f _ _).ok k C
 |_=>rfl⟩
noncomputable abbrev tw (v:I) (f:I->I->I->bF I):bF I:=⟨Mine.tw v λa b c=>(f a b c).bB,λk=>match v with| .tup [a,b,c]=>(f a b c).cps k|_=>.BD Mine.no,λk C=>by
 cases v with
 |tup l=>rcases l with _|⟨a,_|⟨b,_|⟨c,_|_⟩⟩⟩<;>first|rfl|exact(f _ _ _).ok k C
 |_=>rfl⟩
end
noncomputable abbrev ret (v:I):gw:=.BD (Mine.ai v)
theorem DY (e:bF I) C:run (e.cps ret) C=e.bB C:=by
 rw[e.ok];unfold Mine.Y;cases e.bB C<;>rfl
theorem fin:run (.pr m ret) C=m C:=by
 show Mine.Y m Mine.ai C=m C;unfold Mine.Y;cases m C<;>rfl
theorem iF {m:aD I} {e:bF I} (h:m=e.bB) (r:run (e.cps ret) C=D):m C=D:=by rw[h,<-DY,r]
theorem nj {L:cy} {p:ay} {K:aL->aD I} (h:jP it C=some ((),C)) (e:gP (λJ k=>c5 L n sc p b J k) (λv J k=>asg L n sc p 3 t v J k) it K 1000 0 J C=D):jL L p n sc b t it K J C=D:=by
 unfold jL Mine.Y;rw[h];exact e
theorem RZ (e:go c C=some (v,h)):∃k,run c C=some (v,⟨h,k⟩):=by
 unfold go at e
 cases q:run c C with
 |none=>rw[q]at e;cases e
 |some r=>rw[q]at e;cases e;exact⟨r.2.k,rfl⟩
theorem uT {e:bF I} {c:Nat} (bI:sQ a=false) (aP:body (aJ c) (k::p) a aa=e.bB) (eL:go (e.cps ret) ⟨h,0⟩=some (v,az)):
  aJ (c+1) p a aa ⟨h,k⟩=some (v,⟨jt (k::p) h az,k+1⟩):=by
 obtain⟨g6,eL⟩:=RZ eL
 rw[AQ bI,aP,<-DY,eL]
theorem qh {e:bF I} {c:Nat} (bI:sQ a=true) (aP:body (aJ c) (k::p) a aa=e.bB) (eL:go (e.cps ret) ⟨h,0⟩=some (v,az)):
  aJ (c+1) p a aa ⟨h,k⟩=some (v,⟨az,k+1⟩):=by
 obtain⟨g6,eL⟩:=RZ eL
 rw[vc bI,aP,<-DY,eL]
theorem c_ (h:jc.lookup a=none) (e:L p a aa C=D):fz L p (.at a) aa C=D:=by
 rw[aaN a h];exact e
theorem iy (e:builtin p b aa C=D):fz L p (.bi b) aa C=D:=e
theorem fR (e:jk p b aa C=D):fz L p (.type b) aa C=D:=e
section
theorem eqT (h:a=b):dK (dX .Eq (.int a) (.int b)) C=some (.bool true,C):=iC (cJ (λt=>some (t,C)) (iU h))
theorem eN (h:¬a=b):dK (dX .Eq (.int a) (.int b)) C=some (.bool false,C):=iC (cJ (λt=>some (t,C)) (qc h))
theorem j_ (h:a<b):dK (dX .Lt (.int a) (.int b)) C=some (.bool true,C):=iC (cJ (λt=>some (t,C)) (iU h))
theorem kQ (h:¬a<b):dK (dX .Lt (.int a) (.int b)) C=some (.bool false,C):=iC (cJ (λt=>some (t,C)) (qc h))
theorem yZ (h:a<=b):dK (dX .LtE (.int a) (.int b)) C=some (.bool true,C):=iC (cJ (λt=>some (t,C)) (iU h))
theorem De (h:¬a<=b):dK (dX .LtE (.int a) (.int b)) C=some (.bool false,C):=iC (cJ (λt=>some (t,C)) (qc h))
theorem wQ (h:b<a):dK (dX .Gt (.int a) (.int b)) C=some (.bool true,C):=iC (cJ (λt=>some (t,C)) (iU h))
theorem uZ (h:¬b<a):dK (dX .Gt (.int a) (.int b)) C=some (.bool false,C):=iC (cJ (λt=>some (t,C)) (qc h))
theorem pT (h:b<=a):dK (dX .GtE (.int a) (.int b)) C=some (.bool true,C):=iC (cJ (λt=>some (t,C)) (iU h))
theorem nV (h:¬b<=a):dK (dX .GtE (.int a) (.int b)) C=some (.bool false,C):=iC (cJ (λt=>some (t,C)) (qc h))
theorem neT (h:¬a=b):dK (dX .NotEq (.int a) (.int b)) C=some (.bool true,C):=iC (cJ (λt=>some (t,C)) (iU h))
theorem ua (h:a=b):dK (dX .NotEq (.int a) (.int b)) C=some (.bool false,C):=iC (cJ (λt=>some (t,C)) (qc λz=>z h))
theorem iz (h:decide (a=b)=f):dK (dX .Eq (.int a) (.int b)) C=some (.bool f,C):=iC (cJ (λt=>some (t,C)) h)
theorem o_ (h:mV a b=true):fk p .Mult (.int a) (.int b) C=some (.int (a*b),C):=eZ (Fq h) C
theorem n4 (h:b≠0):fk p .Mod (.int a) (.int b) C=some (.int (a.fmod b),C):=eZ (J7 h) C
theorem L3 {body:aL->(aL->aD I)->aD I} {gr:I->aL->(aL->aD I)->aD I} {K:aL->aD I} (bG:g8 it j C=some (some v,C)):gP body gr it K (dY+1) j J C=gr v J (λJ=>body J λJ=>gP body gr it K dY (j+1) J) C:=by
 show Mine.Y (g8 it j) _ C=_
 unfold Mine.Y
 rw[bG]
theorem lend {body:aL->(aL->aD I)->aD I} {gr:I->aL->(aL->aD I)->aD I} {K:aL->aD I} (bG:g8 it j C=some (none,C)):gP body gr it K (dY+1) j J C=K J C:=by
 show Mine.Y (g8 it j) _ C=_
 unfold Mine.Y
 rw[bG]
theorem Nt (h:j<aC):g8 (.eo 0 (aC:Nat)) j C=some (some (.int (0+j)),C):=by
 show some (if decide ((0:Int)+(j:Nat)<(aC:Nat))then _ else _,C)=_
 rw[bT (iU (by rw[BR];exact Int.ofNat_lt.mpr h))]
theorem DT (h:j=aC):g8 (.eo 0 (aC:Nat)) j C=some (none,C):=by
 show some (if decide ((0:Int)+(j:Nat)<(aC:Nat))then _ else _,C)=_
 rw[h,BR,bX (λz=>Int.lt_irrefl _ (kJ z))]
theorem Go {b9 ef uE:Type} {body:aL->(aL->aD I)->aD I} {gr:I->aL->(aL->aD I)->aD I} {K:aL->aD I} {R:I->b9->aL} {af:uE->Nat->bL} {g:ef->I} {f:uE->ef->uE} {cZ:Nat->uE->Prop} {aC:List ef}
  (bG:∀t k j,g8 it j (af t k)=some ((aC.map g)[j]?,af t k))
  (nC:∀w v u au,gr u (R w v) au=au (R u v))
  (aP:∀v t j k au (h:j<aC.length),cZ j t->∃fU,body (R (g aC[j]) v) au (af t k)=au (R (g aC[j]) fU) (af (f t aC[j]) (k+c)))
  (ow:∀t j (h:j<aC.length),cZ j t->cZ (j+1) (f t aC[j])) (d):
  ∀t k w v dY j,cZ j t->j+d=aC.length->d<dY->
   ∃ig fU,gP body gr it K dY j (R w v) (af t k)=K (R ig fU) (af ((aC.drop j).foldl f t) (k+c*d)):=by
 induction d with
 |zero=>
  intro t k w v dY j _ aI h
  have aI:j=aC.length:=aI
  induction dY with
  |zero=>exact absurd h (rD _)
  |succ dY=>exact⟨w,v,(lend ((bG t k j).trans (by rw[jI,sd (ng aI.symm)];rfl))).trans (by rw[List.drop_of_length_le (ng aI.symm)];rfl)⟩
 |succ d ih=>
  intro t k w v dY j gt aI h
  induction dY with
  |zero=>exact absurd h (rD _)
  |succ dY=>
   have aW:=aI▸ER (BS d)
   refine(aP v t j k (λJ=>gP body gr it K dY (j+1) J) aW gt).elim λfU bJ=>?_
   refine(ih (f t aC[j]) (k+c) (g aC[j]) fU dY (j+1) (ow t j aW gt) ((EO j d).trans aI) (zY h)).elim λig e=>e.elim λOl e=>⟨ig,Ol,?_⟩
   refine(L3 ((bG t k j).trans (by rw[jI,h7 aW];rfl))).trans ((eZ (nC ..) _).trans (bJ.trans (e.trans ?_)))
   rw[List.drop_eq_getElem_cons aW,List.foldl_cons,Nat.mul_succ,tG (c*d) c,rE]
theorem fold {b9 ef uE:Type} {body:aL->(aL->aD I)->aD I} {K:aL->aD I} {R:I->b9->aL} {af:uE->Nat->bL} {g:ef->I} {f:uE->ef->uE} {cZ:uE->Prop} {aC:List ef}
  (bG:∀t k j,g8 it j (af t k)=some ((aC.map g)[j]?,af t k))
  (nC:∀w v u au,gr u (R w v) au=au (R u v))
  (aP:∀v t i k au,cZ t->i∈aC->∃fU,body (R (g i) v) au (af t k)=au (R (g i) fU) (af (f t i) (k+c)))
  (ow:∀t i,cZ t->i∈aC->cZ (f t i)) (d):
  ∀t k w v dY j,cZ t->j+d=aC.length->d<dY->
   ∃ig fU,gP body gr it K dY j (R w v) (af t k)=K (R ig fU) (af ((aC.drop j).foldl f t) (k+c*d)):=
 Go bG nC (λv t j k au h g=>aP v t _ k au g (sf h)) (λt j h g=>ow t _ g (sf h)) d
end
theorem gen {body:aL->(aL->aD I)->aD I} {gr:I->aL->(aL->aD I)->aD I} {K:aL->aD I} {aa:List I} {aS:Nat->aL->bL->Prop}
  (bG:∀i J C,aS i J C->g8 it i C=some (aa[i]?,C))
  (aR:∀i (h:i<aa.length) J C au,aS i J C->∃cz aT,gr aa[i] J (λJ=>body J au) C=au cz aT/\aS (i+1) cz aT) (d):
  ∀dY i J C,aS i J C->i+d=aa.length->d<dY->∃cz aT,gP body gr it K dY i J C=K cz aT/\aS aa.length cz aT:=by
 induction d with
 |zero=>
  intro dY i J C dJ aI h
  have aI:i=aa.length:=aI
  induction dY with
  |zero=>exact absurd h (rD _)
  |succ dY=>exact⟨J,C,lend ((bG i J C dJ).trans (by rw[sd (ng aI.symm)])),aI▸dJ⟩
 |succ d ih=>
  intro dY i J C dJ aI h
  induction dY with
  |zero=>exact absurd h (rD _)
  |succ dY=>
   have aj:=aI▸ER (BS d)
   exact(aR i aj J C (λJ=>gP body gr it K dY (i+1) J) dJ).elim λxU z=>z.elim λgR z=>(ih dY (i+1) xU gR z.2 ((EO i d).trans aI) (zY h)).elim λE1 y=>y.elim λoi y=>
    ⟨E1,oi,(L3 ((bG i J C dJ).trans (by rw[h7 aj]))).trans (z.1.trans y.1),y.2⟩
end Mine.Q
namespace Mine.Q
section
variable (L:cy) (p:ay) (au:aL->aD I) (w X ah aB aK aX bg bS cv dc eY fL gX ir:I)
theorem ZQ:body L p 93 [X]=(Y (Y (ai []) λfC=>pr (new p (.cB (List.zip [] fC)))) λb6=>er (H X) "functions" b6 (Y (Y (ai []) λfj=>pr (new p (.cB (List.zip [] fj)))) λe8=>er (H X) "instructions" e8 (ai .none))).bB:=by kernel_rfl
theorem Y6:body L p 142 [X,ah,aB]=(Y (H ah) λfC=>er (H X) "code" fC (Y (ak 0) λt3=>er (H X) "at" t3 (Y (Y (ai []) (iK p)) λe8=>er (H X) "calls" e8 (Y (H aB) λcW=>er (H X) "most_calls" cW (ai .none))))).bB:=by kernel_rfl
noncomputable abbrev FA (L:cy) (p:ay) (X:I) (ah:I):bF I:=Y (bC L p 198 (bP (H X) (H ah))) λt3=>tw t3 λfj e8 cV=>Y (b7 (pL (H cV)) (ak 2) (ak 1)) λf_=>b7 (b_ .Gt (aU p .Add (H fj) (aU p .Mult (H f_) (H e8))) (ck L p (ai (.bi "len")) (bh (H X)))) (no) (b7 (Y (pL (H cV)) λgk=>ai (w9 gk)) (eM (bP (ck L p (ai (.type "list")) (bh (Y (H X) λpC=>Y (H fj) λoK=>Y (aU p .Add (H fj) (H e8)) λpD=>Y (ai .none) λgA=>pr (slice p pC oK pD gA)))) (aU p .Add (H fj) (H e8)))) (Y (Y (ai []) (iK p)) λqB=>Y (ck L p (ai (.type "range")) (bh (H e8))) λvH=>pr (jL L p 93 (aA 24).sc G4 Hq vH (Hg L p) (zz X ah fj e8 cV f_ qB .undef .undef))))
theorem J4:body L p 205 [X,ah]=(FA L p X ah).bB:=by kernel_rfl
theorem ahh:Hg L p (zz X ah aB aK aX bg bS cv dc)=(eM (bP (H bS) (aU p .Add (H aB) (aU p .Mult (ak 2) (H aK))))).bB:=by kernel_rfl
theorem agK:c5 L 93 (aA 24).sc p G4 (zz X ah aB aK aX bg bS cv dc) au=(Y (aU p .Add (aU p .Mult (aV (H X) (aU p .Add (H aB) (aU p .Mult (ak 2) (H cv)))) (ak 256)) (aV (H X) (aU p .Add (aU p .Add (H aB) (aU p .Mult (ak 2) (H cv))) (ak 1)))) λvI=>eH (cQ L p (H bS) "append" (bh (b7 (b_ .GtE (H vI) (ak 32768)) (aU p .Sub (H vI) (ak 65536)) (H vI)))) (pr (au (zz X ah aB aK aX bg bS cv vI)))).bB:=by kernel_rfl
noncomputable abbrev Km (L:cy) (p:ay) (X:I) (ah:I) (aB:I) (aK:I) (aX:I) (bg:I):bF I:=Y (ck L p (fN 173) (bP (H ah) (ai (.int 32)))) λt3=>er (H X) "place" t3 (Y (H aB) λe8=>er (H X) "work" e8 (Y (H aK) λcW=>er (H X) "ops" cW (Y (H aX) λkH=>er (H X) "functions" kH (Y (H bg) λi8=>er (H X) "most_steps" i8 (Y (ak 0) λkT=>er (H X) "steps" kT (ai .none))))))
theorem Za:body L p 241 [X,ah,aB,aK,aX,bg]=(Km L p X ah aB aK aX bg).bB:=by kernel_rfl
theorem PN:body L p 255 [X]=(Y (a_ (H X) "place") λb6=>b7 (b_ .GtE (a_ (H b6) "at") (ck L p (ai (.bi "len")) (bh (a_ (H b6) "code")))) (no) (Y (a_ (H b6) "at") λkT=>Y (aV (a_ (H b6) "code") (H kT)) λhU=>b7 (Y (bC L p 191 (bh (H hU))) truth) (Y (bC L p 205 (bP (a_ (H b6) "code") (H kT))) λpC=>ie pC λoK pD=>er (H b6) "at" pD (Y (H oK) λgu=>pr (jL L p 91 (cU 35 2).sc L_ Mz gu (Hh L p) (Bl X b6 kT hU oK .undef)))) (Y (aU p .Add (H kT) (ak 1)) λuo=>er (H b6) "at" uo (b7 (b_ .In (H hU) (eM (dF (ai (.int 88)) (ai (.int 27)) (ai (.int 89))))) (eH (cQ L p (H X) "branch" (bh (H hU))) (ai .none)) (b7 (b_ .In (H hU) (eM (dF (ai (.int 28)) (ai (.int 120)) (ai (.int 121))))) (eH (cQ L p (H X) "jump" (bP (H hU) (H kT))) (ai .none)) (b7 (b_ .In (H hU) (eM (qC (ai (.int 43)) (ai (.int 42)) (ai (.int 44)) (ai (.int 137)) (ai (.int 45))))) (eH (cQ L p (H X) "routine" (bh (H hU))) (ai .none)) (b7 (b_ .In (H hU) (a_ (H X) "ops")) (eH (ck L p (aV (a_ (H X) "ops") (H hU)) (bP (a_ (H X) "work") (H hU))) (ai .none)) (b7 (b_ .In (H hU) (a_ (a_ (H X) "functions") "instructions")) (eH (cQ L p (H b6) "call" (bP (aV (a_ (a_ (H X) "functions") "instructions") (H hU)) (ak 1))) (ai .none)) (no))))))))).bB:=by kernel_rfl
theorem ahj:Hh L p (Bl X ah aB aK aX bg)=(ai .none).bB:=by kernel_rfl
theorem agM:c5 L 91 (cU 35 2).sc p L_ (Bl X ah aB aK aX bg) au=(eH (cQ L p (a_ (a_ (H X) "work") "stack") "push" (bh (H bg))) (pr (au (Bl X ah aB aK aX bg)))).bB:=by kernel_rfl
noncomputable abbrev Kn (L:cy) (p:ay) (X ah aB aK:I):bF I:=b7 (b_ .Lt (H aK) (ak 0)) (aU p .Sub (ak 0) (aU p .FloorDiv (aU p .Add (aU p .Sub (ak 0) (aU p .Mult (ak 2) (H aK))) (H aB)) (aU p .Mult (ak 2) (H aB)))) (aU p .FloorDiv (aU p .Add (aU p .Mult (ak 2) (H aK)) (H aB)) (aU p .Mult (ak 2) (H aB)))
theorem Zd:body L p 290 [X,ah,aB]=(Y (aU p .Mult (H X) (H ah)) λt3=>b7 (b_ .Lt (H aB) (ak 0)) (Y (eM (bP (aU p .Sub (ak 0) (H t3)) (aU p .Sub (ak 0) (H aB)))) λN1=>ie N1 λanr BC=>Kn L p (X) (ah) (BC) (anr)) (Kn L p (X) (ah) (aB) (t3))).bB:=by kernel_rfl
theorem Ze:body L p 304 [X,ah]=(bC L p 290 (dF (H X) (H ah) (ai (.int 16384)))).bB:=by kernel_rfl
theorem Zf:body L p 311 [X,ah,aB]=(bC L p 290 (dF (aU p .Add (aU p .Mult (H X) (aV (H aB) (ak 0))) (aU p .Mult (H ah) (aV (H aB) (ak 1)))) (ak 1) (ai (.int 16384)))).bB:=by kernel_rfl
theorem Zg:body L p 367 [X,ah,aB]=(cQ L p (H X) "projected" (bP (aU p .Sub (aV (H ah) (ak 0)) (aV (H aB) (ak 0))) (aU p .Sub (aV (H ah) (ak 1)) (aV (H aB) (ak 1))))).bB:=by kernel_rfl
theorem Zh:body L p 374 [X,ah,aB]=(cQ L p (H X) "dual_projected" (bP (aU p .Sub (aV (H ah) (ak 0)) (aV (H aB) (ak 0))) (aU p .Sub (aV (H ah) (ak 1)) (aV (H aB) (ak 1))))).bB:=by kernel_rfl
theorem Zi:body L p 381 [X,ah,aB]=(cQ L p (H X) "projected" (bP (aV (aV (a_ (H ah) "current") (cQ L p (H ah) "check" (bh (H aB)))) (ak 0)) (aV (aV (a_ (H ah) "current") (H aB)) (ak 1)))).bB:=by kernel_rfl
noncomputable abbrev Qd (L:cy) (p:ay) (X ah aB:I):bF I:=b7 (b_ .NotEq (aV (a_ (H X) "freedom") (ak 1)) (ak 0)) (Y (ai (.bool true)) λhU=>gT (aV (a_ (H ah) "touched") (H aB)) (ak 1) hU (ai .none)) (ai .none)
theorem Zj:body L p 388 [X,ah,aB]=(b7 (b_ .NotEq (aV (a_ (H X) "freedom") (ak 0)) (ak 0)) (Y (ai (.bool true)) λqA=>gT (aV (a_ (H ah) "touched") (H aB)) (ak 0) qA (Qd L p (X) (ah) (aB))) (Qd L p (X) (ah) (aB))).bB:=by kernel_rfl
theorem Zk:body L p 395 [X,ah]=(Y (cQ L p (H X) "free_dot" (ai [])) λfj=>eM (bP (bC L p 290 (dF (H ah) (aV (a_ (H X) "freedom") (ak 0)) (H fj))) (bC L p 290 (dF (H ah) (aV (a_ (H X) "freedom") (ak 1)) (H fj))))).bB:=by kernel_rfl
noncomputable abbrev Qf (L:cy) (p:ay) (X ah aB aK aX bg bS:I):bF I:=eH (cQ L p (H ah) "put" (bP (H aB) (eM (bP (H bg) (H bS))))) (b7 (pL (H aX)) (eH (bC L p 388 (dF (H X) (H ah) (H aB))) (ai .none)) (ai .none))
noncomputable abbrev Qe (L:cy) (p:ay) (X ah aB aK aX bg bS:I):bF I:=b7 (b_ .NotEq (aV (a_ (H X) "freedom") (ak 1)) (ak 0)) (Y (aU p .Add (H bS) (aV (H aK) (ak 1))) λN1=>Qf L p (X) (ah) (aB) (aK) (aX) (bg) (N1)) (Qf L p (X) (ah) (aB) (aK) (aX) (bg) (bS))
theorem Zl:body L p 402 [X,ah,aB,aK,aX]=(Y (aV (a_ (H ah) "current") (cQ L p (H ah) "check" (bh (H aB)))) λcW=>ie cW λf_ kH=>b7 (b_ .NotEq (aV (a_ (H X) "freedom") (ak 0)) (ak 0)) (Y (aU p .Add (H f_) (aV (H aK) (ak 0))) λN2=>Qe L p (X) (ah) (aB) (aK) (aX) (N2) (kH)) (Qe L p (X) (ah) (aB) (aK) (aX) (f_) (kH))).bB:=by kernel_rfl
theorem Zm:body L p 409 [X,ah,aB,aK]=(eH (bC L p 402 (qC (a_ (H X) "state") (H ah) (H aB) (bC L p 395 (bP (a_ (H X) "state") (H aK))) (ai (.bool true)))) (ai .none)).bB:=by kernel_rfl
theorem Zn:body L p 423 [X,ah]=(eM (bP (bC L p 304 (bP (H ah) (aV (a_ (H X) "freedom") (ak 0)))) (bC L p 304 (bP (H ah) (aV (a_ (H X) "freedom") (ak 1)))))).bB:=by kernel_rfl
theorem Zo:body L p 438 [X,ah]=(Y (cQ L p (H X) "zone" (bh (a_ (a_ (H X) "state") "zp2"))) λcV=>Y (cQ L p (H cV) "check" (bh (cQ L p (a_ (H X) "stack") "pop" (ai [])))) λxB=>b7 (b_ .Eq (aU p .Mod (H ah) (ak 2)) (ak 1)) (eH (cQ L p (a_ (H X) "stack") "push" (bh (bC L p 374 (dF (a_ (H X) "state") (aV (a_ (H cV) "original") (H xB)) (ai (.tup [.int 0,.int 0])))))) (ai .none)) (eH (cQ L p (a_ (H X) "stack") "push" (bh (bC L p 381 (dF (a_ (H X) "state") (H cV) (H xB))))) (ai .none))).bB:=by kernel_rfl
theorem Zp:body L p 452 [X,ah]=(Y (a_ (H X) "state") λb6=>Y (eM (bP (cQ L p (a_ (H X) "stack") "pop" (ai [])) (cQ L p (a_ (H X) "stack") "pop" (ai [])))) λi8=>ie i8 λfY kT=>Y (eM (bP (cQ L p (H X) "zone" (bh (a_ (H b6) "zp0"))) (cQ L p (H X) "zone" (bh (a_ (H b6) "zp1"))))) λmD=>ie mD λqA pC=>eH (cQ L p (H qA) "check" (bh (H kT))) (eH (cQ L p (H pC) "check" (bh (H fY))) (b7 (b_ .Eq (aU p .Mod (H ah) (ak 2)) (ak 1)) (eH (cQ L p (a_ (H X) "stack") "push" (bh (bC L p 367 (dF (H b6) (aV (a_ (H qA) "current") (H kT)) (aV (a_ (H pC) "current") (H fY)))))) (ai .none)) (eH (cQ L p (a_ (H X) "stack") "push" (bh (bC L p 374 (dF (H b6) (aV (a_ (H qA) "original") (H kT)) (aV (a_ (H pC) "original") (H fY)))))) (ai .none))))).bB:=by kernel_rfl
theorem Zq:body L p 501 []=(Y (Y (BI (fN 466) (fN 473) (fN 480) (fN 438) (fN 438) (fN 445)) λfC=>pr (new p (.cB (List.zip [15,39,41,70,71,72] fC)))) λb6=>Y (fN 452) λt3=>gT (H b6) (ak 73) t3 (Y (fN 452) λcV=>gT (H b6) (ak 74) cV (Y (fN 487) λkH=>gT (H b6) (ak 128) kH (Y (fN 494) λfY=>gT (H b6) (ak 129) fY (Y (fN 494) λjv=>gT (H b6) (ak 130) jv (H b6)))))).bB:=by kernel_rfl
theorem PR:body L p 536 [X]=(Y (Y (BI (eM (dF (ak 64) (ak 0) (ak 32))) (eM (dF (ak 64) (ak 32) (ak 32))) (eM (dF (ak 32) (ak 0) (ak 16))) (eM (dF (ak 64) (ak 0) (ak 0))) (eM (dF (ak 64) (ak 0) (ak 63))) (eM (dF (ak 0) (ak 0) (ak 0)))) λfC=>pr (new p (.jn (List.zip [("grid":Str),("half grid":Str),("double grid":Str),("down":Str),("up":Str),("off":Str)] fC)))) λb6=>b7 (b_ .NotIn (H X) (H b6)) (no) (Y (aV (H b6) (H X)) λjE=>tw jE λi8 fY kT=>ck L p (fN 525) (dF (H i8) (H fY) (H kT)))).bB:=by kernel_rfl
theorem YC:body L p 1057 [X,ah]=(Y (Y (BI (ns "grid") (ns "half grid") (ns "double grid") (ns "down") (ns "up") (ns "off")) λfC=>pr (new p (.cB (List.zip [24,25,61,125,124,122] fC)))) λb6=>Y (bC L p 536 (bh (aV (H b6) (H ah)))) λcW=>er (a_ (H X) "state") "rounding" cW (ai .none)).bB:=by kernel_rfl
theorem PO:body L p 515 [X,ah,aB,aK]=(Y (H ah) λfC=>er (H X) "period" fC (Y (H aB) λt3=>er (H X) "phase" t3 (Y (H aK) λe8=>er (H X) "threshold" e8 (ai .none)))).bB:=by kernel_rfl
noncomputable abbrev Qg (L:cy) (p:ay) (X ah aB aK aX bg:I):bF I:=b7 (b_ .GtE (H X) (ak 0)) (H bg) (aU p .Sub (ak 0) (H bg))
theorem Zr:body L p 550 [X,ah]=(Y (eM (bP (a_ (H ah) "period") (a_ (H ah) "phase"))) λt3=>ie t3 λfj e8=>b7 (b_ .Eq (H fj) (ak 0)) (H X) (Y (b7 (b_ .GtE (H X) (ak 0)) (H X) (aU p .Sub (ak 0) (H X))) λmC=>Y (aU p .Add (aU p .Mult (aU p .FloorDiv (aU p .Add (aU p .Sub (H mC) (H e8)) (a_ (H ah) "threshold")) (H fj)) (H fj)) (H e8)) λIF=>b7 (b_ .Lt (H IF) (ak 0)) (Y (H e8) λN2=>Qg L p (X) (ah) (fj) (e8) (mC) (N2)) (Qg L p (X) (ah) (fj) (e8) (mC) (IF)))).bB:=by kernel_rfl
theorem Zs:body L p 557 [X]=(b7 (b_ .GtE (H X) (ak 0)) (H X) (aU p .Sub (ak 0) (H X))).bB:=by kernel_rfl
theorem Zt:body L p 571 [X,ah,aB]=(b7 (b_ .GtE (H aB) (ak 0)) (b7 (b_ .GtE (H ah) (a_ (H X) "minimum")) (H ah) (a_ (H X) "minimum")) (b7 (b_ .LtE (H ah) (aU p .Sub (ak 0) (a_ (H X) "minimum"))) (H ah) (aU p .Sub (ak 0) (a_ (H X) "minimum")))).bB:=by kernel_rfl
theorem Zu:body L p 578 [X,ah,aB]=(b7 (b_ .Lt (bC L p 557 (bh (aU p .Sub (H aB) (a_ (H X) "single_width")))) (a_ (H X) "single_cut_in")) (bC L p 564 (bP (a_ (H X) "single_width") (H ah))) (H ah)).bB:=by kernel_rfl
theorem Zv:body L p 585 [X,ah]=(Y (a_ (H X) "state") λb6=>Y (cQ L p (a_ (H X) "stack") "pop" (ai [])) λcW=>Y (cQ L p (H X) "zone" (bh (a_ (H b6) "zp0"))) λfY=>Y (bC L p 381 (dF (H b6) (H fY) (H cW))) λjv=>eH (bC L p 409 (jw (H X) (H fY) (H cW) (b7 (b_ .Eq (aU p .Mod (H ah) (ak 2)) (ak 1)) (aU p .Sub (bC L p 550 (bP (H jv) (a_ (H b6) "rounding"))) (H jv)) (ak 0)))) (Y (H cW) λuo=>er (H b6) "rp0" uo (Y (H cW) λm5=>er (H b6) "rp1" m5 (ai .none)))).bB:=by kernel_rfl
noncomputable abbrev Qi (L:cy) (p:ay) (X ah aB aK aX bg bS:I):bF I:=eH (bC L p 409 (jw (H X) (H bg) (H aX) (aU p .Sub (H aK) (H bS)))) (Y (H aX) λEd=>er (H aB) "rp0" Ed (Y (H aX) λEf=>er (H aB) "rp1" Ef (ai .none)))
noncomputable abbrev Qj (L:cy) (p:ay) (X ah aB aK aX bg bS:I):bF I:=Y (bC L p 550 (bP (H aK) (a_ (H aB) "rounding"))) λN5=>Qi L p (X) (ah) (aB) (N5) (aX) (bg) (bS)
noncomputable abbrev Qh (L:cy) (p:ay) (X ah aB aK aX bg bS:I):bF I:=Y (bC L p 381 (dF (H aB) (H bg) (H aX))) λm5=>b7 (b_ .Eq (aU p .Mod (H ah) (ak 2)) (ak 1)) (b7 (b_ .Gt (bC L p 557 (bh (aU p .Sub (H aK) (H m5)))) (a_ (H aB) "cut_in")) (Y (H m5) λN6=>Qj L p (X) (ah) (aB) (N6) (aX) (bg) (m5)) (Qj L p (X) (ah) (aB) (aK) (aX) (bg) (m5))) (Qi L p (X) (ah) (aB) (aK) (aX) (bg) (m5))
theorem Zw:body L p 592 [X,ah]=(Y (a_ (H X) "state") λb6=>Y (cQ L p (H X) "cvt_value" (bh (cQ L p (a_ (H X) "stack") "pop" (ai [])))) λjE=>Y (cQ L p (a_ (H X) "stack") "pop" (ai [])) λjv=>Y (cQ L p (H X) "zone" (bh (a_ (H b6) "zp0"))) λh6=>eH (cQ L p (H h6) "check" (bh (H jv))) (b7 (b_ .Eq (a_ (H b6) "zp0") (ak 0)) (eH (bC L p 430 (dF (H h6) (H jv) (bC L p 423 (bP (H b6) (H jE))))) (Qh L p (X) (ah) (b6) (jE) (jv) (h6) (.undef))) (Qh L p (X) (ah) (b6) (jE) (jv) (h6) (.undef)))).bB:=by kernel_rfl
theorem Zx:body L p 599 [X,ah,aB]=(Y (a_ (H X) "rp0") λb6=>er (H X) "rp1" b6 (Y (H ah) λfj=>er (H X) "rp2" fj (b7 (pL (H aB)) (Y (H ah) λcW=>er (H X) "rp0" cW (ai .none)) (ai .none)))).bB:=by kernel_rfl
theorem Zy:body L p 606 [X]=(Y (cQ L p (H X) "zone" (bh (a_ (a_ (H X) "state") "zp0"))) λcV=>eM (bP (H cV) (cQ L p (H cV) "check" (bh (a_ (a_ (H X) "state") "rp0"))))).bB:=by kernel_rfl
noncomputable abbrev Qk (L:cy) (p:ay) (X ah aB aK aX bg bS cv dc:I):bF I:=eH (bC L p 409 (jw (H X) (H bS) (H aK) (aU p .Sub (H dc) (bC L p 367 (dF (H aB) (aV (a_ (H bS) "current") (H aK)) (aV (a_ (H aX) "current") (H bg))))))) (eH (bC L p 599 (dF (H aB) (H aK) (ki .Eq (aU p .Mod (aU p .FloorDiv (H ah) (ak 16)) (ak 2)) (ak 1)))) (ai .none))
theorem Zz:body L p 613 [X,ah]=(Y (a_ (H X) "state") λb6=>Y (cQ L p (a_ (H X) "stack") "pop" (ai [])) λcW=>Y (bC L p 606 (bh (H X))) λjE=>ie jE λi8 fY=>Y (cQ L p (H X) "zone" (bh (a_ (H b6) "zp1"))) λhU=>Y (bC L p 374 (dF (H b6) (aV (a_ (H hU) "original") (cQ L p (H hU) "check" (bh (H cW)))) (aV (a_ (H i8) "original") (H fY)))) λkG=>Y (bC L p 578 (dF (H b6) (H kG) (bC L p 557 (bh (H kG))))) λpF=>Y (b7 (b_ .Eq (aU p .Mod (aU p .FloorDiv (H ah) (ak 4)) (ak 2)) (ak 1)) (bC L p 550 (bP (H pF) (a_ (H b6) "rounding"))) (H pF)) λIG=>b7 (b_ .Eq (aU p .Mod (aU p .FloorDiv (H ah) (ak 8)) (ak 2)) (ak 1)) (Y (bC L p 571 (dF (H b6) (H IG) (H pF))) λEh=>Qk L p (X) (ah) (b6) (cW) (i8) (fY) (hU) (pF) (Eh)) (Qk L p (X) (ah) (b6) (cW) (i8) (fY) (hU) (pF) (IG))).bB:=by kernel_rfl
noncomputable abbrev Kq (L:cy) (p:ay) (X ah aB aK aX bg bS cv dc eY fL:I):bF I:=eH (bC L p 409 (jw (H X) (H cv) (H aX) (aU p .Sub (H aK) (H fL)))) (eH (bC L p 599 (dF (H aB) (H aX) (ki .Eq (aU p .Mod (aU p .FloorDiv (H ah) (ak 16)) (ak 2)) (ak 1)))) (ai .none))
noncomputable abbrev Kp (L:cy) (p:ay) (X ah aB aK aX bg bS cv dc eY fL:I):bF I:=b7 (b_ .Eq (aU p .Mod (aU p .FloorDiv (H ah) (ak 8)) (ak 2)) (ak 1)) (Y (bC L p 571 (dF (H aB) (H aK) (H eY))) λamZ=>Kq L p (X) (ah) (aB) (amZ) (aX) (bg) (bS) (cv) (dc) (eY) (fL)) (Kq L p (X) (ah) (aB) (aK) (aX) (bg) (bS) (cv) (dc) (eY) (fL))
noncomputable abbrev Qm (L:cy) (p:ay) (X ah aB aK aX bg bS cv dc eY fL:I):bF I:=Y (bC L p 550 (bP (H aK) (a_ (H aB) "rounding"))) λam2=>Kp L p (X) (ah) (aB) (am2) (aX) (bg) (bS) (cv) (dc) (eY) (fL)
noncomputable abbrev Ko (L:cy) (p:ay) (X ah aB aK aX bg bS cv dc eY fL:I):bF I:=b7 (b_ .Eq (aU p .Mod (aU p .FloorDiv (H ah) (ak 4)) (ak 2)) (ak 1)) (b7 (Y (b_ .Eq (a_ (H aB) "zp0") (a_ (H aB) "zp1")) λam1=>ite am1 (b_ .Gt (bC L p 557 (bh (aU p .Sub (H aK) (H eY)))) (a_ (H aB) "cut_in")) (ai false)) (Y (H eY) λam3=>Qm L p (X) (ah) (aB) (am3) (aX) (bg) (bS) (cv) (dc) (eY) (fL)) (Qm L p (X) (ah) (aB) (aK) (aX) (bg) (bS) (cv) (dc) (eY) (fL))) (Kp L p (X) (ah) (aB) (aK) (aX) (bg) (bS) (cv) (dc) (eY) (fL))
noncomputable abbrev Ql (L:cy) (p:ay) (X ah aB aK aX bg bS cv dc eY fL:I):bF I:=Y (bC L p 374 (dF (H aB) (aV (a_ (H cv) "original") (H aX)) (aV (a_ (H bg) "original") (H bS)))) λpG=>Y (bC L p 367 (dF (H aB) (aV (a_ (H cv) "current") (H aX)) (aV (a_ (H bg) "current") (H bS)))) λvI=>b7 (Y (Y (a_ (H aB) "auto_flip") truth) λN7=>ite N7 (b_ .NotEq (ki .Lt (H pG) (ak 0)) (ki .Lt (H aK) (ak 0))) (ai false)) (Y (aU p .Sub (ak 0) (H aK)) λvG=>Ko L p (X) (ah) (aB) (vG) (aX) (bg) (bS) (cv) (dc) (pG) (vI)) (Ko L p (X) (ah) (aB) (aK) (aX) (bg) (bS) (cv) (dc) (pG) (vI))
theorem ZA:body L p 620 [X,ah]=(Y (a_ (H X) "state") λb6=>Y (cQ L p (H X) "cvt_value" (bh (cQ L p (a_ (H X) "stack") "pop" (ai [])))) λjE=>Y (cQ L p (a_ (H X) "stack") "pop" (ai [])) λjv=>Y (bC L p 606 (bh (H X))) λmC=>ie mC λmZ h6=>Y (cQ L p (H X) "zone" (bh (a_ (H b6) "zp1"))) λoK=>eH (cQ L p (H oK) "check" (bh (H jv))) (Y (bC L p 578 (dF (H b6) (H jE) (bC L p 557 (bh (H jE))))) λpF=>b7 (b_ .Eq (a_ (H b6) "zp1") (ak 0)) (Y (bC L p 423 (bP (H b6) (H pF))) λNT=>eH (bC L p 430 (dF (H oK) (H jv) (eM (bP (aU p .Add (aV (aV (a_ (H mZ) "original") (H h6)) (ak 0)) (aV (H NT) (ak 0))) (aU p .Add (aV (aV (a_ (H mZ) "original") (H h6)) (ak 1)) (aV (H NT) (ak 1))))))) (Ql L p (X) (ah) (b6) (pF) (jv) (mZ) (h6) (oK) (NT) (.undef) (.undef))) (Ql L p (X) (ah) (b6) (pF) (jv) (mZ) (h6) (oK) (.undef) (.undef) (.undef)))).bB:=by kernel_rfl
noncomputable abbrev Qn (L:cy) (p:ay) (X ah aB aK aX bg bS cv:I):bF I:=eH (bC L p 409 (jw (H X) (H cv) (H aX) (aU p .Sub (H aK) (bC L p 367 (dF (H aB) (aV (a_ (H cv) "current") (H aX)) (aV (a_ (H bg) "current") (H bS))))))) (eH (bC L p 599 (dF (H aB) (H aX) (ki .Eq (aU p .Mod (H ah) (ak 2)) (ak 1)))) (ai .none))
theorem ZB:body L p 627 [X,ah]=(Y (a_ (H X) "state") λb6=>Y (cQ L p (a_ (H X) "stack") "pop" (ai [])) λcW=>Y (cQ L p (a_ (H X) "stack") "pop" (ai [])) λfY=>Y (bC L p 606 (bh (H X))) λjv=>ie jv λry hU=>Y (cQ L p (H X) "zone" (bh (a_ (H b6) "zp1"))) λmD=>eH (cQ L p (H mD) "check" (bh (H fY))) (b7 (b_ .Eq (a_ (H b6) "zp1") (ak 0)) (Y (aV (a_ (H ry) "original") (H hU)) λqa=>gT (a_ (H mD) "original") (H fY) qa (eH (bC L p 416 (jw (H X) (H mD) (H fY) (H cW))) (eH (cQ L p (H mD) "put" (bP (H fY) (aV (a_ (H mD) "original") (H fY)))) (Qn L p (X) (ah) (b6) (cW) (fY) (ry) (hU) (mD))))) (Qn L p (X) (ah) (b6) (cW) (fY) (ry) (hU) (mD)))).bB:=by kernel_rfl
theorem ZC:body L p 634 [X,ah]=(Y (a_ (H X) "state") λb6=>Y (bC L p 606 (bh (H X))) λe8=>ie e8 λcV cW=>Y (cQ L p (H X) "zone" (bh (a_ (H b6) "zp1"))) λfY=>Y (ck L p (ai (.type "range")) (bh (cQ L p (H X) "next_loop" (ai [])))) λmC=>pr (jL L p 95 (aA 90).sc G5 MA mC (Mm L p) (Bm X ah b6 cV cW fY .undef .undef))).bB:=by kernel_rfl
theorem ahk:Mm L p (Bm X ah aB aK aX bg bS cv)=(ai .none).bB:=by kernel_rfl
theorem agN:c5 L 95 (aA 90).sc p G5 (Bm X ah aB aK aX bg bS cv) au=(Y (cQ L p (H bg) "check" (bh (cQ L p (a_ (H X) "stack") "pop" (ai [])))) λpD=>eH (bC L p 409 (jw (H X) (H bg) (H pD) (aU p .Sub (ak 0) (bC L p 367 (dF (H aB) (aV (a_ (H bg) "current") (H pD)) (aV (a_ (H aK) "current") (H aX))))))) (pr (au (Bm X ah aB aK aX bg bS pD)))).bB:=by kernel_rfl
theorem ZD:body L p 641 [X,ah]=(Y (a_ (H X) "state") λb6=>Y (cQ L p (H X) "zone" (bh (a_ (H b6) "zp0"))) λcW=>Y (cQ L p (H X) "zone" (bh (a_ (H b6) "zp1"))) λfY=>Y (eM (bP (cQ L p (H cW) "check" (bh (a_ (H b6) "rp1"))) (cQ L p (H fY) "check" (bh (a_ (H b6) "rp2"))))) λgk=>ie gk λmD qA=>Y (bC L p 374 (dF (H b6) (aV (a_ (H fY) "original") (H qA)) (aV (a_ (H cW) "original") (H mD)))) λqB=>Y (bC L p 367 (dF (H b6) (aV (a_ (H fY) "current") (H qA)) (aV (a_ (H cW) "current") (H mD)))) λn9=>Y (cQ L p (H X) "zone" (bh (a_ (H b6) "zp2"))) λEd=>Y (ck L p (ai (.type "range")) (bh (cQ L p (H X) "next_loop" (ai [])))) λEg=>pr (jL L p 91 (aA 91).sc Ti TX Eg (Mn L p) (Bo X ah b6 cW fY mD qA qB n9 Ed .undef .undef .undef))).bB:=by kernel_rfl
noncomputable abbrev Qo (L:cy) (p:ay) (au:aL->aD I) (X ah aB aK aX bg bS cv dc eY fL gX ir:I):bF I:=eH (bC L p 409 (jw (H X) (H eY) (H gX) (aU p .Sub (H ir) (bC L p 367 (dF (H aB) (aV (a_ (H eY) "current") (H gX)) (aV (a_ (H aK) "current") (H bg))))))) (pr (au (Bo X ah aB aK aX bg bS cv dc eY fL gX ir)))
theorem ahl:Mn L p (Bo X ah aB aK aX bg bS cv dc eY fL gX ir)=(ai .none).bB:=by kernel_rfl
theorem Tj:c5 L 91 (aA 91).sc p Ti (Bo X ah aB aK aX bg bS cv dc eY fL gX ir) au=(Y (cQ L p (H eY) "check" (bh (cQ L p (a_ (H X) "stack") "pop" (ai [])))) λuq=>Y (bC L p 374 (dF (H aB) (aV (a_ (H eY) "original") (H uq)) (aV (a_ (H aK) "original") (H bg)))) λWl=>b7 (b_ .NotEq (H cv) (ak 0)) (Y (bC L p 290 (dF (H Wl) (H dc) (H cv))) λN_=>Qo L p au (X) (ah) (aB) (aK) (aX) (bg) (bS) (cv) (dc) (eY) (fL) (uq) (N_)) (Qo L p au (X) (ah) (aB) (aK) (aX) (bg) (bS) (cv) (dc) (eY) (fL) (uq) (Wl))).bB:=by kernel_rfl
theorem ZE:body L p 648 []=(Y (Y (BI (fN 585) (fN 585) (fN 592) (fN 592) (fN 627) (fN 627)) λfC=>pr (new p (.cB (List.zip [46,47,62,63,58,59] fC)))) λb6=>Y (fN 634) λt3=>gT (H b6) (ak 60) t3 (Y (fN 641) λcV=>gT (H b6) (ak 57) cV (Y (ck L p (ai (.type "range")) (bP (ak 192) (ak 224))) λi8=>pr (jL L p 95 (aA 92).sc Tl TY i8 (TL L p) (Bp b6 .undef))))).bB:=by kernel_rfl
theorem ahm:TL L p (Bp X ah)=(H X).bB:=by kernel_rfl
theorem agO:c5 L 95 (aA 92).sc p Tl (Bp X ah) au=(Y (fN 613) λfY=>gT (H X) (H ah) fY (Y (fN 620) λjv=>gT (H X) (aU p .Add (H ah) (ak 32)) jv (pr (au (Bp X ah))))).bB:=by kernel_rfl
theorem ZF:body L p 793 [X,ah]=(Y (eM (bP (cQ L p (a_ (H X) "stack") "pop" (ai [])) (cQ L p (a_ (H X) "stack") "pop" (ai [])))) λkH=>ie kH λjE i8=>eH (cQ L p (H X) "put_cvt" (bP (H i8) (H jE))) (ai .none)).bB:=by kernel_rfl
theorem ZG:body L p 814 [X,ah,aB]=(b7 (b_ .NotEq (a_ (H X) "ppem") (aU p .Add (aU p .Add (aU p .Mod (aU p .FloorDiv (H ah) (ak 16)) (ak 16)) (H aB)) (a_ (a_ (H X) "state") "delta_base"))) (ak 0) (Y (aU p .Sub (aU p .Mod (H ah) (ak 16)) (ak 8)) λgk=>Y (b7 (b_ .GtE (H gk) (ak 0)) (aU p .Add (H gk) (ak 1)) (H gk)) λkG=>aU p .Mult (H kG) (aU p .Pow (ak 2) (aU p .Sub (ak 6) (a_ (a_ (H X) "state") "delta_shift"))))).bB:=by kernel_rfl
theorem ZH:body L p 849 [X,ah]=(Y (a_ (H X) "state") λb6=>Y (cQ L p (H X) "zone" (bh (b7 (b_ .Eq (aU p .Mod (H ah) (ak 2)) (ak 1)) (a_ (H b6) "zp0") (a_ (H b6) "zp1")))) λjv=>Y (cQ L p (H jv) "check" (bh (b7 (b_ .Eq (aU p .Mod (H ah) (ak 2)) (ak 1)) (a_ (H b6) "rp1") (a_ (H b6) "rp2")))) λgu=>Y (dF (H jv) (H gu) (bC L p 395 (bP (H b6) (bC L p 367 (dF (H b6) (aV (a_ (H jv) "current") (H gu)) (aV (a_ (H jv) "original") (H gu))))))) r3).bB:=by kernel_rfl
theorem ZI:body L p 856 [X,ah]=(Y (bC L p 849 (bP (H X) (H ah))) λt3=>tw t3 λfj e8 cV=>Y (cQ L p (H X) "zone" (bh (a_ (a_ (H X) "state") "zp2"))) λfY=>Y (ck L p (ai (.type "range")) (bh (cQ L p (H X) "next_loop" (ai [])))) λmC=>pr (jL L p 96 (aA 125).sc Tn TZ mC (Mp L p) (Bq X ah fj e8 cV fY .undef))).bB:=by kernel_rfl
theorem ahn:Mp L p (Bq X ah aB aK aX bg bS)=(ai .none).bB:=by kernel_rfl
theorem agP:c5 L 96 (aA 125).sc p Tn (Bq X ah aB aK aX bg bS) au=(eH (bC L p 402 (qC (a_ (H X) "state") (H bg) (cQ L p (a_ (H X) "stack") "pop" (ai [])) (H aX) (ai (.bool true)))) (pr (au (Bq X ah aB aK aX bg bS)))).bB:=by kernel_rfl
theorem ZJ:body L p 863 [X,ah]=(b7 (Y (Y (ak 0) λt3=>Y (H ah) λfj=>Y (qw (dX .LtE t3 fj)) λe8=>ite e8 (Y (ck L p (ai (.bi "len")) (bh (a_ (H X) "ends"))) λcV=>qw (dX .Lt fj cV)) (ai false)) λb6=>ai (w9 b6)) (no) (eM (bP (b7 (b_ .Eq (H ah) (ak 0)) (ak 0) (aU p .Add (aV (a_ (H X) "ends") (aU p .Sub (H ah) (ak 1))) (ak 1))) (aV (a_ (H X) "ends") (H ah))))).bB:=by kernel_rfl
theorem ZK:body L p 891 [X,ah]=(Y (bC L p 423 (bP (a_ (H X) "state") (cQ L p (a_ (H X) "stack") "pop" (ai [])))) λf_=>Y (cQ L p (H X) "zone" (bh (a_ (a_ (H X) "state") "zp2"))) λxB=>Y (ck L p (ai (.type "range")) (bh (cQ L p (H X) "next_loop" (ai [])))) λh6=>pr (jL L p 96 (aA 130).sc To T3 h6 (Mq L p) (Br X ah f_ xB .undef))).bB:=by kernel_rfl
theorem aho:Mq L p (Br X ah aB aK aX)=(ai .none).bB:=by kernel_rfl
theorem agQ:c5 L 96 (aA 130).sc p To (Br X ah aB aK aX) au=(eH (bC L p 402 (qC (a_ (H X) "state") (H aK) (cQ L p (a_ (H X) "stack") "pop" (ai [])) (H aB) (ai (.bool true)))) (pr (au (Br X ah aB aK aX)))).bB:=by kernel_rfl
theorem ZL:body L p 898 [X,ah]=(Y (aV (Y (dF (ak 0) (ak 16) (ak 32)) λt3=>pr (new p (.cB (List.zip [93,113,114] t3)))) (H ah)) λfj=>Y (cQ L p (H X) "zone" (bh (a_ (a_ (H X) "state") "zp0"))) λjE=>Y (ck L p (ai (.type "range")) (bh (cQ L p (a_ (H X) "stack") "pop" (ai [])))) λhU=>pr (jL L p 96 (aA 131).sc Tp T4 hU (TM L p) (vA X ah fj jE .undef .undef .undef .undef))).bB:=by kernel_rfl
theorem TN:TM L p (vA X ah aB aK aX bg bS cv)=(ai .none).bB:=by kernel_rfl
theorem Tq:c5 L 96 (aA 131).sc p Tp (vA X ah aB aK aX bg bS cv) au=(Y (eM (bP (cQ L p (a_ (H X) "stack") "pop" (ai [])) (cQ L p (a_ (H X) "stack") "pop" (ai [])))) λpD=>ie pD λgA gu=>Y (bC L p 814 (dF (H X) (H gu) (H aB))) λuo=>b7 (b_ .NotEq (H uo) (ak 0)) (eH (bC L p 409 (jw (H X) (H aK) (cQ L p (H aK) "check" (bh (H gA))) (H uo))) (pr (au (vA X ah aB aK aX gA gu uo)))) (pr (au (vA X ah aB aK aX gA gu uo)))).bB:=by kernel_rfl
theorem ZM:body L p 905 [X,ah,aB]=(b7 (b_ .LtE (H X) (aV (H ah) (ak 0))) (aU p .Sub (aU p .Add (H X) (aV (H ah) (ak 1))) (aV (H ah) (ak 0))) (b7 (b_ .GtE (H X) (aV (H aB) (ak 0))) (aU p .Sub (aU p .Add (H X) (aV (H aB) (ak 1))) (aV (H aB) (ak 0))) (aU p .Add (aV (H ah) (ak 1)) (bC L p 290 (dF (aU p .Sub (H X) (aV (H ah) (ak 0))) (aU p .Sub (aV (H aB) (ak 1)) (aV (H ah) (ak 1))) (aU p .Sub (aV (H aB) (ak 0)) (aV (H ah) (ak 0)))))))).bB:=by kernel_rfl
theorem ZN:body L p 912 [X,ah,aB,aK]=(Y (aV (a_ (H X) "current") (H ah)) λfj=>ie fj λe8 cV=>Y (b7 (b_ .Eq (H aB) (ak 0)) (eM (bP (H aK) (H cV))) (eM (bP (H e8) (H aK)))) λfY=>gT (a_ (H X) "current") (H ah) fY (ai .none)).bB:=by kernel_rfl
theorem ZO:body L p 919 [X,ah,aB]=(eM (bP (aV (aV (a_ (H X) "original") (H ah)) (H aB)) (aV (aV (a_ (H X) "current") (H ah)) (H aB)))).bB:=by kernel_rfl
noncomputable abbrev Qp (L:cy) (p:ay) (X ah aB aK aX bg bS cv:I):bF I:=Y (H aB) λhU=>pr (jL L p 96 (aA 135).sc Tr T6 hU (Mr L p) (Bs X ah aB aK aX bg bS cv))
theorem ZP:body L p 926 [X,ah,aB,aK,aX]=(Y (eM (bP (bC L p 919 (dF (H X) (H aK) (H ah))) (bC L p 919 (dF (H X) (H aX) (H ah))))) λe8=>ie e8 λcV cW=>b7 (b_ .Gt (aV (H cV) (ak 0)) (aV (H cW) (ak 0))) (Y (eM (bP (H cW) (H cV))) λmC=>ie mC λmZ h6=>Qp L p (X) (ah) (aB) (aK) (aX) (mZ) (h6) (.undef)) (Qp L p (X) (ah) (aB) (aK) (aX) (cV) (cW) (.undef))).bB:=by kernel_rfl
theorem ahp:Mr L p (Bs X ah aB aK aX bg bS cv)=(ai .none).bB:=by kernel_rfl
theorem agR:c5 L 96 (aA 135).sc p Tr (Bs X ah aB aK aX bg bS cv) au=(eH (bC L p 912 (jw (H X) (H cv) (H ah) (bC L p 905 (dF (aV (aV (a_ (H X) "original") (H cv)) (H ah)) (H bg) (H bS))))) (pr (au (Bs X ah aB aK aX bg bS cv)))).bB:=by kernel_rfl
noncomputable abbrev Qq (L:cy) (p:ay) (X:I) (ah:I) (aB:I) (aK:I):bF I:=Y (Y (ck L p (ai (.type "range")) (bP (H aB) (aU p .Add (H aK) (ak 1)))) λjE=>pr (jZ p (λq J=>gv L 97 As q J (ee yo 2)) (λq J=>eK L 97 As q J (ee yo 0)) ("i":Str) jE (Nh .undef ah X))) λi8=>b7 (b_ .Eq (H i8) (Y (ai []) (iK p))) (ai .none) (Y (ck L p (ai (.type "range")) (bh (ck L p (ai (.bi "len")) (bh (H i8))))) λgk=>pr (jL L p 96 (aA 136).sc G6 Hr gk (A2 L p) (zA X ah aB aK i8 .undef .undef .undef .undef)))
theorem ZR:body L p 931 [X,ah,aB,aK]=(Qq L p X ah aB aK).bB:=by kernel_rfl
noncomputable abbrev FD (L:cy) (p:ay) (au:aL->aD I) (X ah aB aK aX bg bS cv dc:I):bF I:=eH (bC L p 926 (qC (H X) (H ah) (H dc) (H bS) (H cv))) (pr (au (zA X ah aB aK aX bg bS cv dc)))
theorem ahq:A2 L p (zA X ah aB aK aX bg bS cv dc)=(ai .none).bB:=by kernel_rfl
theorem Tt:c5 L 96 (aA 136).sc p G6 (zA X ah aB aK aX bg bS cv dc) au=(Y (aV (H aX) (H bg)) λpC=>Y (aV (H aX) (aU p .Mod (aU p .Add (H bg) (ak 1)) (ck L p (ai (.bi "len")) (bh (H aX))))) λm5=>b7 (b_ .Lt (aU p .Add (H bg) (ak 1)) (ck L p (ai (.bi "len")) (bh (H aX)))) (Y (ck L p (ai (.type "list")) (bh (ck L p (ai (.type "range")) (bP (aU p .Add (H pC) (ak 1)) (H m5))))) λEg=>FD L p au (X) (ah) (aB) (aK) (aX) (bg) (pC) (m5) (Eg)) (Y (aU p .Add (ck L p (ai (.type "list")) (bh (ck L p (ai (.type "range")) (bP (aU p .Add (H pC) (ak 1)) (aU p .Add (H aK) (ak 1)))))) (ck L p (ai (.type "list")) (bh (ck L p (ai (.type "range")) (bP (H aB) (H m5)))))) λanA=>FD L p au (X) (ah) (aB) (aK) (aX) (bg) (pC) (m5) (anA))).bB:=by kernel_rfl
theorem ZS:body L p 938 [X,ah]=(Y (b7 (b_ .Eq (aU p .Mod (H ah) (ak 2)) (ak 1)) (ak 0) (ak 1)) λf_=>Y (aV (a_ (H X) "zones") (ak 1)) λfY=>Y (ck L p (ai (.type "range")) (bh (ck L p (ai (.bi "len")) (bh (a_ (H fY) "ends"))))) λmC=>pr (jL L p 96 (aA 137).sc Ma MB mC (Hi L p) (Bt X ah f_ fY .undef .undef .undef))).bB:=by kernel_rfl
theorem TP:Hi L p (Bt X ah aB aK aX bg bS)=(ai .none).bB:=by kernel_rfl
theorem agS:c5 L 96 (aA 137).sc p Ma (Bt X ah aB aK aX bg bS) au=(Y (bC L p 863 (bP (H aK) (H aX))) λgk=>ie gk λmD qA=>eH (bC L p 931 (jw (H aK) (H aB) (H mD) (H qA))) (pr (au (Bt X ah aB aK aX mD qA)))).bB:=by kernel_rfl
theorem ZT:body L p 945 []=(Y (Y (WL (fN 938) (fN 938) (fN 856) (fN 856) (fN 877) (fN 877) (fN 891)) λfC=>pr (new p (.cB (List.zip [48,49,50,51,52,53,56] fC)))) λb6=>Y (fN 884) λt3=>gT (H b6) (ak 54) t3 (Y (fN 884) λcV=>gT (H b6) (ak 55) cV (Y (eM (dF (ak 93) (ak 113) (ak 114))) λkH=>pr (jL L p 95 (aA 138).sc Tu T7 kH (TQ L p) (Bu b6 .undef))))).bB:=by kernel_rfl
theorem ahr:TQ L p (Bu X ah)=(H X).bB:=by kernel_rfl
theorem agT:c5 L 95 (aA 138).sc p Tu (Bu X ah) au=(Y (fN 898) λjE=>gT (H X) (H ah) jE (pr (au (Bu X ah)))).bB:=by kernel_rfl
theorem ZV:body L p 959 [X]=(b7 (b_ .Eq (aU p .Mod (H X) (ak 2)) (ak 1)) (eM (bP (ai (.int 16384)) (ak 0))) (eM (bP (ak 0) (ai (.int 16384))))).bB:=by kernel_rfl
noncomputable abbrev Qt (L:cy) (p:ay) (X ah aB:I):bF I:=b7 (Y (b_ .Lt (H ah) (ak 2)) λhU=>ite hU (ai true) (b_ .GtE (H ah) (ak 4))) (Y (bC L p 959 (bh (H ah))) λgk=>er (H aB) "freedom" gk (ai .none)) (ai .none)
theorem ZW:body L p 966 [X,ah]=(Y (a_ (H X) "state") λb6=>b7 (b_ .Lt (H ah) (ak 4)) (Y (bC L p 959 (bh (H ah))) λoK=>er (H b6) "projection" oK (Y (a_ (H b6) "projection") λgu=>er (H b6) "dual" gu (Qt L p (X) (ah) (b6)))) (Qt L p (X) (ah) (b6))).bB:=by kernel_rfl
theorem YA:body L p 1022 [X,ah]=(Y (cQ L p (a_ (H X) "stack") "pop" (ai [])) λe8=>b7 (b_ .Eq (H ah) (ak 16)) (Y (H e8) λi8=>er (a_ (H X) "state") "rp0" i8 (ai .none)) (b7 (b_ .Eq (H ah) (ak 17)) (Y (H e8) λmZ=>er (a_ (H X) "state") "rp1" mZ (ai .none)) (Y (H e8) λmD=>er (a_ (H X) "state") "rp2" mD (ai .none)))).bB:=by kernel_rfl
theorem YB:body L p 1036 [X,ah]=(Y (cQ L p (a_ (H X) "stack") "pop" (ai [])) λe8=>b7 (b_ .Lt (H e8) (ak 0)) (no) (Y (b7 (b_ .Lt (H e8) (ai (.int 65535))) (H e8) (ai (.int 65535))) λry=>er (a_ (H X) "state") "loop" ry (ai .none))).bB:=by kernel_rfl
theorem YE:body L p 1092 [X]=(Y (eM (bP (ai (.int 16384)) (ak 0))) λfC=>er (H X) "freedom" fC (Y (eM (bP (ai (.int 16384)) (ak 0))) λt3=>er (H X) "projection" t3 (Y (eM (bP (ai (.int 16384)) (ak 0))) λe8=>er (H X) "dual" e8 (Y (ak 0) λcW=>er (H X) "rp0" cW (Y (ak 0) λkH=>er (H X) "rp1" kH (Y (ak 0) λi8=>er (H X) "rp2" i8 (Y (ak 1) λkT=>er (H X) "zp0" kT (Y (ak 1) λjv=>er (H X) "zp1" jv (Y (ak 1) λhU=>er (H X) "zp2" hU (Y (ak 1) λmZ=>er (H X) "loop" mZ (Y (ak 64) λgk=>er (H X) "minimum" gk (Y (ak 68) λqA=>er (H X) "cut_in" qA (Y (ak 0) λoK=>er (H X) "single_cut_in" oK (Y (ak 0) λgA=>er (H X) "single_width" gA (Y (ak 9) λkG=>er (H X) "delta_base" kG (Y (ak 3) λuo=>er (H X) "delta_shift" uo (Y (ai (.bool true)) λm5=>er (H X) "auto_flip" m5 (Y (bC L p 536 (bh (ns "grid"))) λanq=>er (H X) "rounding" anq (ai .none))))))))))))))))))).bB:=by kernel_rfl
theorem YF:body L p 1099 [X]=(Y (bC L p 311 (dF (aV (a_ (H X) "freedom") (ak 0)) (aV (a_ (H X) "freedom") (ak 1)) (a_ (H X) "projection"))) λjE=>b7 (Y (aU p .Sub (ak 0) (ai (.int 1024))) λfY=>Y (H jE) λkT=>Y (qw (dX .Lt fY kT)) λxB=>ite xB (Y (ai (.int 1024)) λjv=>qw (dX .Lt kT jv)) (ai false)) (ai (.int 16384)) (H jE)).bB:=by kernel_rfl
theorem YG:body L p 1106 [X,ah,aB]=(bC L p 311 (dF (H ah) (H aB) (a_ (H X) "projection"))).bB:=by kernel_rfl
theorem YH:body L p 1113 [X,ah,aB]=(bC L p 311 (dF (H ah) (H aB) (a_ (H X) "dual"))).bB:=by kernel_rfl
theorem YI:body L p 1141 [X,ah]=(Y (H ah) λfC=>er (H X) "most" fC (Y (Y (ai []) (iK p)) λt3=>er (H X) "numbers" t3 (ai .none))).bB:=by kernel_rfl
theorem YJ:body L p 1148 [X,ah]=(b7 (b_ .GtE (ck L p (ai (.bi "len")) (bh (a_ (H X) "numbers"))) (a_ (H X) "most")) (no) (eH (cQ L p (a_ (H X) "numbers") "append" (bh (H ah))) (ai .none))).bB:=by kernel_rfl
theorem YK:body L p 1155 [X]=(b7 (b_ .Eq (a_ (H X) "numbers") (Y (ai []) (iK p))) (no) (cQ L p (a_ (H X) "numbers") "pop" (ai []))).bB:=by kernel_rfl
noncomputable abbrev J9 (L:cy) (p:ay) (X:I) (ah:I) (aB:I) (aK:I) (aX:I) (bg:I) (bS:I):bF I:=Y (ck L p (fN 1123) (ai [])) λt3=>er (H X) "state" t3 (Y (ck L p (fN 1179) (bh (H aK))) λcW=>er (H X) "stack" cW (Y (H ah) λkH=>er (H X) "zones" kH (Y (H aB) λi8=>er (H X) "cvt" i8 (Y (Y (ai []) λkT=>pr (new p (.cB (List.zip [] kT)))) λxB=>er (H X) "storage" xB (Y (H aX) λry=>er (H X) "ppem" ry (Y (H bg) λmC=>er (H X) "point_size" mC (Y (H bS) λh6=>er (H X) "scale" h6 (ai .none))))))))
theorem YL:body L p 1199 [X,ah,aB,aK,aX,bg,bS]=(J9 L p X ah aB aK aX bg bS).bB:=by kernel_rfl
noncomputable abbrev Fu (L:cy) (p:ay) (X:I) (ah:I) (aB:I) (aK:I):bF I:=Y (Y (H ah) λt3=>pr (rI L p 97 QO Kr "point" t3 (Vt .undef))) λfj=>er (H X) "original" fj (Y (Y (H ah) λf_=>pr (rI L p 96 QS Ks "point" f_ (Vu .undef))) λkH=>er (H X) "current" kH (Y (Y (H ah) λi8=>pr (rI L p 95 QT Ku "point" i8 (Vv .undef))) λfY=>er (H X) "touched" fY (Y (ck L p (ai (.type "list")) (bh (H aB))) λry=>er (H X) "ends" ry (Y (b7 (b_ .Is (H aK) (ai .none)) (aU p .Mult (e_ p (bh (ai (.bool true)))) (ck L p (ai (.bi "len")) (bh (a_ (H X) "original")))) (ck L p (ai (.type "list")) (bh (H aK)))) λIF=>er (H X) "on_curve" IF (ai .none)))))
theorem PG:body L p 1248 [X,ah,aB,aK]=(Fu L p X ah aB aK).bB:=by kernel_rfl
theorem aaS:eK L 97 QO p (Vt bg) (ee Kr 0)=(ck L p (ai (.type "tuple")) (bh (H bg))).bB:=by kernel_rfl
theorem aaT:eK L 96 QS p (Vu bg) (ee Ks 0)=(ck L p (ai (.type "tuple")) (bh (H bg))).bB:=by kernel_rfl
theorem aaU:eK L 95 QT p (Vv bg) (ee Ku 0)=(e_ p (bP (ai (.bool false)) (ai (.bool false)))).bB:=by kernel_rfl
theorem YN:body L p 1206 [X,ah]=(b7 (b_ .NotIn (H ah) (eM (bP (ak 0) (ak 1)))) (no) (aV (a_ (H X) "zones") (H ah))).bB:=by kernel_rfl
theorem YO:body L p 1213 [X,ah]=(b7 (Y (Y (ak 0) λt3=>Y (H ah) λfj=>Y (qw (dX .LtE t3 fj)) λe8=>ite e8 (Y (ck L p (ai (.bi "len")) (bh (a_ (H X) "cvt"))) λcV=>qw (dX .Lt fj cV)) (ai false)) λb6=>ai (w9 b6)) (no) (aV (a_ (H X) "cvt") (H ah))).bB:=by kernel_rfl
theorem YQ:body L p 1220 [X,ah,aB]=(eH (cQ L p (H X) "cvt_value" (bh (H ah))) (Y (H aB) λe8=>gT (a_ (H X) "cvt") (H ah) e8 (ai .none))).bB:=by kernel_rfl
theorem YR:body L p 1227 [X]=(Y (a_ (a_ (H X) "state") "loop") λt3=>Y (ak 1) λfj=>er (a_ (H X) "state") "loop" fj (H t3)).bB:=by kernel_rfl
theorem YU:body L p 1262 [X,ah]=(b7 (Y (Y (ak 0) λt3=>Y (H ah) λfj=>Y (qw (dX .LtE t3 fj)) λe8=>ite e8 (Y (ck L p (ai (.bi "len")) (bh (a_ (H X) "current"))) λcV=>qw (dX .Lt fj cV)) (ai false)) λb6=>ai (w9 b6)) (no) (H ah)).bB:=by kernel_rfl
theorem YV:body L p 1269 [X,ah,aB]=(Y (H aB) λfC=>gT (a_ (H X) "current") (cQ L p (H X) "check" (bh (H ah))) fC (ai .none)).bB:=by kernel_rfl
end
end Mine.Q
namespace Mine.lK
section
variable {n:Nat} {p:ay} {N:fy} {G:bl} {B:fF} {k:Nat} {C:bL} {i m:Nat} {xs:List Int}
theorem Le (b:Bool):t4 (lO b)=true:=by cases b<;>rfl
theorem cR:fB (.ref (N.f .work)) "state" ⟨aq N G B,k⟩=some (.ref (N.f .state),⟨aq N G B,k⟩):=iQ rfl rfl
theorem gC:fB (.ref (N.f .work)) "stack" ⟨aq N G B,k⟩=some (.ref (N.f .stack),⟨aq N G B,k⟩):=iQ rfl rfl
theorem OA:fB (.ref (N.f .work)) "zones" ⟨aq N G B,k⟩=some (.ref (N.f .xM),⟨aq N G B,k⟩):=iQ rfl rfl
theorem OC:fB (.ref (N.f .work)) "cvt" ⟨aq N G B,k⟩=some (.ref (N.f .bf),⟨aq N G B,k⟩):=iQ rfl rfl
theorem OD:fB (.ref (N.f .work)) "ppem" ⟨aq N G B,k⟩=some (.int 12,⟨aq N G B,k⟩):=iQ rfl rfl
theorem qD:fB (.ref (N.f .state)) "freedom" ⟨aq N G B,k⟩=some (lO B.t.cL,⟨aq N G B,k⟩):=mP (g7 rfl) (g7 rfl) rfl rfl rfl (Le _)
theorem W0:fB (.ref (N.f .state)) "projection" ⟨aq N G B,k⟩=some (lO B.t.cL,⟨aq N G B,k⟩):=mP (g7 rfl) (g7 rfl) rfl rfl rfl (Le _)
theorem aoP:fB (.ref (N.f .state)) "dual" ⟨aq N G B,k⟩=some (lO B.t.cL,⟨aq N G B,k⟩):=mP (g7 rfl) (g7 rfl) rfl rfl rfl (Le _)
theorem Ox:fB (.ref (N.f .state)) "rp0" ⟨aq N G B,k⟩=some (.int B.t.cI,⟨aq N G B,k⟩):=iQ rfl rfl
theorem W2:fB (.ref (N.f .state)) "rp1" ⟨aq N G B,k⟩=some (.int B.t.cT,⟨aq N G B,k⟩):=iQ rfl rfl
theorem W3:fB (.ref (N.f .state)) "rp2" ⟨aq N G B,k⟩=some (.int B.t.dO,⟨aq N G B,k⟩):=iQ rfl rfl
theorem uy:fB (.ref (N.f .state)) "zp0" ⟨aq N G B,k⟩=some (.int 1,⟨aq N G B,k⟩):=iQ rfl rfl
theorem uz:fB (.ref (N.f .state)) "zp1" ⟨aq N G B,k⟩=some (.int 1,⟨aq N G B,k⟩):=iQ rfl rfl
theorem IY:fB (.ref (N.f .state)) "zp2" ⟨aq N G B,k⟩=some (.int 1,⟨aq N G B,k⟩):=iQ rfl rfl
theorem aoQ:fB (.ref (N.f .state)) "loop" ⟨aq N G B,k⟩=some (.int B.loop,⟨aq N G B,k⟩):=iQ rfl rfl
theorem BN:fB (.ref (N.f .state)) "minimum" ⟨aq N G B,k⟩=some (.int 64,⟨aq N G B,k⟩):=iQ rfl rfl
theorem W4:fB (.ref (N.f .state)) "cut_in" ⟨aq N G B,k⟩=some (.int 68,⟨aq N G B,k⟩):=iQ rfl rfl
theorem aoR:fB (.ref (N.f .state)) "single_cut_in" ⟨aq N G B,k⟩=some (.int 0,⟨aq N G B,k⟩):=iQ rfl rfl
theorem aoS:fB (.ref (N.f .state)) "single_width" ⟨aq N G B,k⟩=some (.int 0,⟨aq N G B,k⟩):=iQ rfl rfl
theorem Oz:fB (.ref (N.f .state)) "delta_base" ⟨aq N G B,k⟩=some (.int 9,⟨aq N G B,k⟩):=iQ rfl rfl
theorem W5:fB (.ref (N.f .state)) "delta_shift" ⟨aq N G B,k⟩=some (.int 3,⟨aq N G B,k⟩):=iQ rfl rfl
theorem aoT:fB (.ref (N.f .state)) "auto_flip" ⟨aq N G B,k⟩=some (.bool true,⟨aq N G B,k⟩):=iQ rfl rfl
theorem zR:fB (.ref (N.f .state)) "rounding" ⟨aq N G B,k⟩=some (.ref B.gc,⟨aq N G B,k⟩):=iQ rfl rfl
theorem aoU:fB (.ref (N.f .stack)) "most" ⟨aq N G B,k⟩=some (.int 64,⟨aq N G B,k⟩):=iQ rfl rfl
theorem IZ:fB (.ref (N.f .stack)) "numbers" ⟨aq N G B,k⟩=some (.ref (N.f .nums),⟨aq N G B,k⟩):=iQ rfl rfl
theorem qb:fB (.ref (N.f .cR)) "original" ⟨aq N G B,k⟩=some (.ref (N.f .zl),⟨aq N G B,k⟩):=iQ rfl rfl
theorem iN:fB (.ref (N.f .cR)) "current" ⟨aq N G B,k⟩=some (.ref (N.f .cur),⟨aq N G B,k⟩):=iQ rfl rfl
theorem OB:fB (.ref (N.f .cR)) "touched" ⟨aq N G B,k⟩=some (.ref (N.f .cD),⟨aq N G B,k⟩):=iQ rfl rfl
theorem zS:fB (.ref (N.f .cR)) "ends" ⟨aq N G B,k⟩=some (.ref (N.f .ends),⟨aq N G B,k⟩):=iQ rfl rfl
theorem I0:fB (.ref (N.f .mT)) "place" ⟨aq N G B,k⟩=some (.ref (N.f .place),⟨aq N G B,k⟩):=iQ rfl rfl
theorem W6:fB (.ref (N.f .mT)) "work" ⟨aq N G B,k⟩=some (.ref (N.f .work),⟨aq N G B,k⟩):=iQ rfl rfl
theorem W7:fB (.ref (N.f .mT)) "ops" ⟨aq N G B,k⟩=some (.ref (N.f .ops),⟨aq N G B,k⟩):=iQ rfl rfl
theorem I1:fB (.ref (N.f .place)) "code" ⟨aq N G B,k⟩=some (.bytes B.code,⟨aq N G B,k⟩):=iQ rfl rfl
theorem I2:fB (.ref (N.f .place)) "at" ⟨aq N G B,k⟩=some (.int B.pc,⟨aq N G B,k⟩):=iQ rfl rfl
theorem aoV:fB (.ref (N.f .mT)) "most_steps" ⟨aq N G B,k⟩=some (.int 10000,⟨aq N G B,k⟩):=iQ rfl rfl
theorem W8:fB (.ref (N.f .mT)) "steps" ⟨aq N G B,k⟩=some (.int B.steps,⟨aq N G B,k⟩):=iQ rfl rfl
theorem aoW:fB (.ref (N.f .place)) "calls" ⟨aq N G B,k⟩=some (.ref (N.f .calls),⟨aq N G B,k⟩):=iQ rfl rfl
theorem W9:i0 (.ref (N.f .place)) "is_over" ⟨aq N G B,k⟩=some (.at 149,⟨aq N G B,k⟩):=qZ rfl rfl rfl rfl rfl
theorem aoX:i0 (.ref (N.f .mT)) "step" ⟨aq N G B,k⟩=some (.at 255,⟨aq N G B,k⟩):=qZ rfl rfl rfl rfl rfl
theorem ao1 {v:ay}:lT (.ref (N.f .state)) "rounding" (.ref v) ⟨aq N G B,k⟩=some ((),⟨aq N G {B with gc:=v},k⟩):=zF rfl rfl rfl rfl rfl rfl (An B.t.cI B.t.cT B.t.dO B.loop v B.t.cL)
theorem ao2 {v:Int}:lT (.ref (N.f .mT)) "steps" (.int v) ⟨aq N G B,k⟩=some ((),⟨aq N G {B with steps:=v},k⟩):=zF rfl rfl rfl rfl rfl rfl λj aW=>by rcases j with _|_<;>first|rfl|exact absurd rfl aW
theorem aoY:i0 (.ref (N.f .state)) "free_dot" ⟨aq N G B,k⟩=some (.at 1099,⟨aq N G B,k⟩):=qZ rfl rfl rfl rfl rfl
theorem W_:i0 (.ref (N.f .state)) "projected" ⟨aq N G B,k⟩=some (.at 1106,⟨aq N G B,k⟩):=qZ rfl rfl rfl rfl rfl
theorem aoZ:i0 (.ref (N.f .state)) "dual_projected" ⟨aq N G B,k⟩=some (.at 1113,⟨aq N G B,k⟩):=qZ rfl rfl rfl rfl rfl
theorem I3:i0 (.ref (N.f .stack)) "push" ⟨aq N G B,k⟩=some (.at 1148,⟨aq N G B,k⟩):=qZ rfl rfl rfl rfl rfl
theorem jU:i0 (.ref (N.f .stack)) "pop" ⟨aq N G B,k⟩=some (.at 1155,⟨aq N G B,k⟩):=qZ rfl rfl rfl rfl rfl
theorem nK:i0 (.ref (N.f .work)) "zone" ⟨aq N G B,k⟩=some (.at 1206,⟨aq N G B,k⟩):=qZ rfl rfl rfl rfl rfl
theorem OE:i0 (.ref (N.f .work)) "cvt_value" ⟨aq N G B,k⟩=some (.at 1213,⟨aq N G B,k⟩):=qZ rfl rfl rfl rfl rfl
theorem ao0:i0 (.ref (N.f .work)) "put_cvt" ⟨aq N G B,k⟩=some (.at 1220,⟨aq N G B,k⟩):=qZ rfl rfl rfl rfl rfl
theorem I4:i0 (.ref (N.f .work)) "next_loop" ⟨aq N G B,k⟩=some (.at 1227,⟨aq N G B,k⟩):=qZ rfl rfl rfl rfl rfl
theorem m9:i0 (.ref (N.f .cR)) "check" ⟨aq N G B,k⟩=some (.at 1262,⟨aq N G B,k⟩):=qZ rfl rfl rfl rfl rfl
theorem Xa:i0 (.ref (N.f .cR)) "put" ⟨aq N G B,k⟩=some (.at 1269,⟨aq N G B,k⟩):=qZ rfl rfl rfl rfl rfl
theorem zT {v:Nat}:Q.j3 (lT (.ref (N.f .state)) "rp0" (.int v)) ⟨aq N G B,k⟩=some (.none,⟨aq N G {B with t:={B.t with cI:=v}},k⟩):=Q.gy (zF rfl rfl rfl rfl rfl rfl (An v B.t.cT B.t.dO B.loop B.gc B.t.cL))
theorem xK {v:Nat}:Q.j3 (lT (.ref (N.f .state)) "rp1" (.int v)) ⟨aq N G B,k⟩=some (.none,⟨aq N G {B with t:={B.t with cT:=v}},k⟩):=Q.gy (zF rfl rfl rfl rfl rfl rfl (An B.t.cI v B.t.dO B.loop B.gc B.t.cL))
theorem OF {v:Nat}:Q.j3 (lT (.ref (N.f .state)) "rp2" (.int v)) ⟨aq N G B,k⟩=some (.none,⟨aq N G {B with t:={B.t with dO:=v}},k⟩):=Q.gy (zF rfl rfl rfl rfl rfl rfl (An B.t.cI B.t.cT v B.loop B.gc B.t.cL))
theorem Xb {v:Int}:Q.j3 (lT (.ref (N.f .state)) "loop" (.int v)) ⟨aq N G B,k⟩=some (.none,⟨aq N G {B with loop:=v},k⟩):=Q.gy (zF rfl rfl rfl rfl rfl rfl (An B.t.cI B.t.cT B.t.dO v B.gc B.t.cL))
theorem Xc {v:Int}:Q.j3 (lT (.ref (N.f .place)) "at" (.int v)) ⟨aq N G B,k⟩=some (.none,⟨aq N G {B with pc:=v},k⟩):=Q.gy (zF rfl rfl rfl rfl rfl rfl λj aW=>by rcases j with _|_<;>first|rfl|exact absurd rfl aW)
theorem ko {e:Q.bF I} {c:Nat} {a:Addr} {aa:List I} {bU:fF} {v:I} (Z:c4 N (k::p)) (bI:sQ a=false) (aP:body (aJ c) (k::p) a aa=e.bB) (eL:Q.go (e.cps Q.ret) ⟨aq N G B,0⟩=some (v,aq N G bU)):
  aJ (c+1) p a aa ⟨aq N G B,k⟩=some (v,⟨aq N G bU,k+1⟩):=by
 rw[Q.uT bI aP eL,DQ Z,p8]
theorem jM {e:Q.bF I} {c:Nat} {a:Addr} {aa:List I} {v:I} {C:bL} (bI:sQ a=false) (aP:body (aJ c) (C.k::p) a aa=e.bB) (eL:Q.go (e.cps Q.ret) ⟨C.h,0⟩=some (v,C.h)):
  aJ (c+1) p a aa C=some (v,⟨C.h,C.k+1⟩):=by
 cases C;rw[Q.uT bI aP eL,p8]
end
theorem jz {r:ay} (h:C.h r=some (.list xs)) (bJ:xs[i]?=some v) (aP:i<100000):item (.ref r) (.int (i:Nat)) C=some (v,C):=by
 show Y (obj r) (AR i) C=_
 simp only[Y,obj,AR,h]
 have e:vg ((i:Nat):Int)=true:=(Hj _).mpr ⟨by omega,by omega⟩
 rw[e,bT rfl]
 simp only[Int.toNat_natCast,bJ,gU,ai]
theorem o6 {r:ay} (h:C.h r=some (.list xs)) (aP:xs.length<=100000):builtin p "len" [.ref r] C=some (.int xs.length,C):=by
 show Y (obj r) _ C=_
 simp only[Y,obj,Md,h,aP,qH,jW,ai]
theorem tn {r:ay} (h:C.h r=some (.list xs)) (aj:i<xs.length) (aP:xs.length<=100000):ju (.ref r) (.int (i:Nat)) v C=some ((),⟨C.h.set r (.list (xs.set i v)),C.k⟩):=by
 show Y (obj r) (D4 r i v) C=_
 simp only[Y,obj,D4,h]
 have e:(decide (0<=((i:Nat):Int))&&decide (((i:Nat):Int)<xs.length)&&decide (xs.length<=100000))=true:=by simp;omega
 rw[e,bT rfl]
 simp only[Int.toNat_natCast,upd]
section
theorem UA (cj:aB≠0) (az:-500000000<aB) (aE:aB<500000000):Q.go ((Q.Kn L p X ah (.int aB) (.int t)).cps Q.ret) C=some (.int (if t<0 then 0 -(0 -2*t+aB).fdiv (2*aB)else(2*t+aB).fdiv (2*aB)),C.h):=by
 have iB:∀{p C} {x:Int},fk p .Mult (.int 2) (.int x) C=some (.int (2*x),C):=λ{p C x}=>Q.o_ (sY (by decide) (by decide))
 have Gk:∀{p C} {x:Int},fk p .FloorDiv (.int x) (.int (2*aB)) C=some (.int (x.fdiv (2*aB)),C):=λ{p C x}=>eZ (yh (by omega) (by omega) (by omega)) C
 by_cases bY:t<0
 .rw[bT bY];exact Q.B (Q.j_ bY)<|Q.B iB<|Q.B iB<|Q.B Gk<|rfl
 .rw[bX bY];exact Q.B (Q.kQ bY)<|Q.B iB<|Q.B iB<|Q.B Gk<|rfl
theorem AV (a b c) (h:mV a b=true) (cj:c≠0) (az:-500000000<c) (aE:c<500000000):aJ (n+1) p 290 [.int a,.int b,.int c] C=some (.int (ic a b c),⟨C.h,C.k+1⟩):=by
 refine jM rfl (Q.Zd _ _ _ _ _) ?_
 unfold ic
 by_cases aN:c<0
 .rw[bT aN,bT aN]
  exact Q.B (Q.o_ h)<|Q.B (Q.j_ aN)<|UA (L:=aJ n) (X:=.int a) (ah:=.int b) (by omega) (by omega) (by omega)
 .rw[bX aN,bX aN]
  exact Q.B (Q.o_ h)<|Q.B (Q.kQ aN)<|UA cj az aE
theorem SX (a b) (h:mV a b=true):aJ (n+2) p 304 [.int a,.int b] C=some (.int (ic a b 16384),⟨C.h,C.k+1⟩):=by
 refine jM rfl (Q.Ze _ _ _ _) ?_
 exact Q.B (AV a b 16384 h (by decide) (by decide) (by decide))<|rfl
theorem afO (x y a b) (h:mV x a=true) (bH:mV y b=true):aJ (n+2) p 311 [.int x,.int y,.tup [.int a,.int b]] C=some (.int (ic (x*a+y*b) 1 16384),⟨C.h,C.k+1⟩):=by
 refine jM rfl (Q.Zf _ _ _ _ _) ?_
 have fS:∀{C},item (.tup [.int a,.int b]) (.int 0) C=some (.int a,C):=rfl
 have sO:∀{C},item (.tup [.int a,.int b]) (.int 1) C=some (.int b,C):=rfl
 exact Q.B fS<|Q.B (Q.o_ h)<|Q.B sO<|Q.B (Q.o_ bH)<|Q.B (AV (x*a+y*b) 1 16384 (sZ (by decide) (by decide)) (by decide) (by decide) (by decide))<|rfl
end
theorem yQ (b) (C):item (lO b) (.int 0) C=some (.int (if b then 0 else 16384),C):=rfl
theorem yR (b) (C):item (lO b) (.int 1) C=some (.int (if b then 16384 else 0),C):=rfl
theorem LQ (x y) (b):aJ (n+2) p 311 [.int x,.int y,lO b] C=some (.int (d9 b (x,y)),⟨C.h,C.k+1⟩):=by
 unfold lO
 rw[afO _ _ _ _ (sZ (by split<;>decide) (by split<;>decide)) (sZ (by split<;>decide) (by split<;>decide))]
 rcases b with _|_<;>simp[d9,Uk]
theorem ak0 (b):d9 b (if b then 0 else 16384,if b then 16384 else 0)=16384:=by rcases b with _|_<;>rfl
theorem nD (q) (C):item (e9 q) (.int 0) C=some (.int q.1,C):=rfl
theorem t8 (q) (C):item (e9 q) (.int 1) C=some (.int q.2,C):=rfl
theorem apn (q):H (e9 q)=ai (e9 q):=rfl
theorem HB (i:Nat):((0:Int)<=(i:Int))=True:=by simp
theorem aja (i j:Nat):((i:Int)<(j:Int))=(i<j):=by simp
section
variable {N:fy} {G:bl} {B:fF}
theorem RX {l:List (Int×Int)} (h:i<l.length):(l.map e9)[i]?=some (e9 (l.getD i (0,0))):=by
 rw[jI,h7 h,kU,h7 h];rfl
theorem jq (aj:i<B.t.now.length) (aP:B.t.now.length<=100):item (.ref (N.f .cur)) (.int (i:Nat)) ⟨aq N G B,k⟩=some (e9 (B.t.now.getD i (0,0)),⟨aq N G B,k⟩):=
 jz (g7 rfl) (RX aj) (by omega)
theorem pV (aj:i<B.t.cF.length) (aP:B.t.cF.length<=100):item (.ref (N.f .zl)) (.int (i:Nat)) ⟨aq N G B,k⟩=some (e9 (B.t.cF.getD i (0,0)),⟨aq N G B,k⟩):=
 jz (g7 rfl) (RX aj) (by omega)
theorem agX (aP:B.t.now.length<=100):builtin p "len" [.ref (N.f .cur)] ⟨aq N G B,k⟩=some (.int B.t.now.length,⟨aq N G B,k⟩):=by
 have:=o6 (p:=p) (C:=⟨aq N G B,k⟩) (g7 (i:=.cur) rfl) (by simp;omega)
 simpa using this
theorem S1 (kY CE):aJ (n+3) p 1106 [.ref (N.f .state),.int kY,.int CE] ⟨aq N G B,k⟩=some (.int (d9 B.t.cL (kY,CE)),⟨aq N G B,k+1⟩):=by
 refine jM rfl (Q.YG _ _ _ _ _) ?_
 exact Q.B W0<|Q.B (LQ _ _ _)<|rfl
theorem mR (Z:c4 N (k::p)) (aj:i<B.t.now.length) (aP:B.t.now.length<=100):aJ (n+1) p 1262 [.ref (N.f .cR),.int i] ⟨aq N G B,k⟩=some (.int i,⟨aq N G B,k+1⟩):=by
 refine jM rfl (Q.YU _ _ _ _) ?_
 exact Q.B (Q.yZ (BX i))<|Q.B iN<|Q.B (Q.iy (agX aP))<|Q.B (Q.j_ (Int.ofNat_lt.mpr aj))<|rfl
theorem afS (kY CE):aJ (n+3) p 1113 [.ref (N.f .state),.int kY,.int CE] ⟨aq N G B,k⟩=some (.int (d9 B.t.cL (kY,CE)),⟨aq N G B,k+1⟩):=by
 refine jM rfl (Q.YH _ _ _ _ _) ?_
 exact Q.B aoP<|Q.B (LQ _ _ _)<|rfl
theorem Vg (b) (q r):d9 b (q.1 -r.1,q.2 -r.2)=d9 b q -d9 b r:=by rcases b with _|_<;>rfl
theorem q3 (q r):aJ (n+4) p 367 [.ref (N.f .state),e9 q,e9 r] ⟨aq N G B,k⟩=some (.int (d9 B.t.cL q -d9 B.t.cL r),⟨aq N G B,k+1⟩):=by
 refine jM rfl (Q.Zg _ _ _ _ _) ?_
 rw[<-Vg]
 exact Q.B W_<|Q.B (nD _ _)<|Q.B (nD _ _)<|Q.B (t8 _ _)<|Q.B (t8 _ _)<|Q.B (Q.c_ rfl (S1 _ _))<|rfl
theorem AU (q r):aJ (n+4) p 374 [.ref (N.f .state),e9 q,e9 r] ⟨aq N G B,k⟩=some (.int (d9 B.t.cL q -d9 B.t.cL r),⟨aq N G B,k+1⟩):=by
 refine jM rfl (Q.Zh _ _ _ _ _) ?_
 rw[<-Vg]
 exact Q.B aoZ<|Q.B (nD _ _)<|Q.B (nD _ _)<|Q.B (t8 _ _)<|Q.B (t8 _ _)<|Q.B (Q.c_ rfl (afS _ _))<|rfl
theorem GY (Z:c4 N (k::p)) (aj:i<B.t.now.length) (aP:B.t.now.length<=100):aJ (n+4) p 381 [.ref (N.f .state),.ref (N.f .cR),.int i] ⟨aq N G B,k⟩=some (.int (d9 B.t.cL (B.t.now.getD i (0,0))),⟨aq N G B,k+1⟩):=by
 refine jM rfl (Q.Zi _ _ _ _ _) ?_
 exact Q.B W_<|Q.B iN<|Q.B m9<|Q.B (Q.c_ rfl (mR (Z.sub _) aj aP))<|Q.B (jq aj aP)<|Q.B (nD _ _)<|Q.B iN<|Q.B (jq aj aP)<|Q.B (t8 _ _)<|Q.B (Q.c_ rfl (S1 _ _))<|rfl
theorem afT:aJ (n+3) p 1099 [.ref (N.f .state)] ⟨aq N G B,k⟩=some (.int 16384,⟨aq N G B,k+1⟩):=by
 refine jM rfl (Q.YF _ _ _) ?_
 have h:∀{n p C},aJ (n+2) p 311 [.int (if B.t.cL then 0 else 16384),.int (if B.t.cL then 16384 else 0),lO B.t.cL] C=some (.int 16384,⟨C.h,C.k+1⟩):=λ{n p C}=>by rw[LQ,ak0]
 exact Q.B qD<|Q.B (yQ _ _)<|Q.B qD<|Q.B (yR _ _)<|Q.B W0<|Q.B h<|Q.B (Q.j_ (by decide))<|Q.B (Q.kQ (by decide))<|rfl
theorem Uh (d) (b:Bool):ic d (if b then 0 else 16384) 16384=if b then 0 else d:=by rcases b with _|_;exact Ul d;exact Um d
theorem Ui (d) (b:Bool):ic d (if b then 16384 else 0) 16384=if b then d else 0:=by rcases b with _|_;exact Um d;exact Ul d
theorem Uy (d) (b:Bool):mV d (if b then 0 else 16384)=true:=sZ (by split<;>decide) (by split<;>decide)
theorem Uz (d) (b:Bool):mV d (if b then 16384 else 0)=true:=sZ (by split<;>decide) (by split<;>decide)
noncomputable abbrev rN (b:Bool) (d:Int):I:=.tup [.int (if b then 0 else d),.int (if b then d else 0)]
theorem apm (b) (d):H (rN b d)=ai (rN b d):=rfl
theorem LU (d:Int):aJ (n+4) p 395 [.ref (N.f .state),.int d] ⟨aq N G B,k⟩=some (rN B.t.cL d,⟨aq N G B,k+1⟩):=by
 refine jM rfl (Q.Zk _ _ _ _) ?_
 have cj:∀{n p C},aJ (n+1) p 290 [.int d,.int (if B.t.cL then 0 else 16384),.int 16384] C=some (.int (if B.t.cL then 0 else d),⟨C.h,C.k+1⟩):=λ{n p C}=>by rw[AV _ _ 16384 (Uy _ _) (by decide) (by decide) (by decide),Uh]
 have az:∀{n p C},aJ (n+1) p 290 [.int d,.int (if B.t.cL then 16384 else 0),.int 16384] C=some (.int (if B.t.cL then d else 0),⟨C.h,C.k+1⟩):=λ{n p C}=>by rw[AV _ _ 16384 (Uz _ _) (by decide) (by decide) (by decide),Ui]
 exact Q.B aoY<|Q.B (Q.c_ rfl afT)<|Q.B qD<|Q.B (yQ _ _)<|Q.B cj<|Q.B qD<|Q.B (yR _ _)<|Q.B az<|rfl
theorem afJ (d:Int):aJ (n+3) p 423 [.ref (N.f .state),.int d] ⟨aq N G B,k⟩=some (rN B.t.cL d,⟨aq N G B,k+1⟩):=by
 refine jM rfl (Q.Zn _ _ _ _) ?_
 have cj:∀{n p C},aJ (n+2) p 304 [.int d,.int (if B.t.cL then 0 else 16384)] C=some (.int (if B.t.cL then 0 else d),⟨C.h,C.k+1⟩):=λ{n p C}=>by rw[SX _ _ (Uy _ _),Uh]
 have az:∀{n p C},aJ (n+2) p 304 [.int d,.int (if B.t.cL then 16384 else 0)] C=some (.int (if B.t.cL then d else 0),⟨C.h,C.k+1⟩):=λ{n p C}=>by rw[SX _ _ (Uz _ _),Ui]
 exact Q.B qD<|Q.B (yQ _ _)<|Q.B cj<|Q.B qD<|Q.B (yR _ _)<|Q.B az<|rfl
noncomputable def BF (b:Bool) (q:Bool×Bool):Bool×Bool:=if b then(q.1,true)else(true,q.2)
theorem LK (aj:i<B.t.cD.length) (aP:B.t.cD.length<=100):item (.ref (N.f .cD)) (.int (i:Nat)) ⟨aq N G B,k⟩=some (.ref (N.f (.jF i)),⟨aq N G B,k⟩):=
 jz (g7 rfl) (by rw[jI,z0 aj];rfl) (by omega)
theorem FO (i):cont N B (.jF i)=match B.t.cD[i]? with
  |some q=>some (.list [.bool q.1,.bool q.2])
  |none=>none:=rfl
theorem FN (aj:i<B.t.cD.length):cont N B (.jF i)=some (.list [.bool (B.t.cD.getD i (false,false)).1,.bool (B.t.cD.getD i (false,false)).2]):=by
 rw[FO,kU,h7 aj];rfl
set_option tactic.hygienic true in
theorem Us (aj:i<B.t.cD.length):(aq N G B).set (N.f (.jF i)) (.list [.bool q.1,.bool q.2])=aq N G {B with t:={B.t with cD:=B.t.cD.set i q}}:=by
 refine za ?_ λj aW=>?_
 .rw[FO];dsimp only;rw[ET aj]
 .rcases j with _|_<;>first|rfl|skip
  .show some (cw.list _)=some (cw.list _)
   dsimp only;rw[B3]
  .rename_i j
   rw[FO,FO];dsimp only
   rw[vQ λz=>aW (by rw[z])]
theorem al4 (aj:i<B.t.cD.length) (b:Bool):ju (.ref (N.f (.jF i))) (.int 0) (.bool b) ⟨aq N G B,k⟩=some ((),⟨aq N G {B with t:={B.t with cD:=B.t.cD.set i (b,(B.t.cD.getD i (false,false)).2)}},k⟩):=by
 have:=tn (C:=⟨aq N G B,k⟩) (i:=0) (v:=.bool b) (g7 (FN aj)) (by simp) (by simp)
 rw[<-Us aj]
 exact this
theorem al5 (aj:i<B.t.cD.length) (b:Bool):ju (.ref (N.f (.jF i))) (.int 1) (.bool b) ⟨aq N G B,k⟩=some ((),⟨aq N G {B with t:={B.t with cD:=B.t.cD.set i ((B.t.cD.getD i (false,false)).1,b)}},k⟩):=by
 have:=tn (C:=⟨aq N G B,k⟩) (i:=1) (v:=.bool b) (g7 (FN aj)) (by simp) (by simp)
 rw[<-Us aj]
 exact this
theorem V2 (aj:i<B.t.now.length) (aP:B.t.now.length<=100) (q:Int×Int):ju (.ref (N.f .cur)) (.int i) (e9 q) ⟨aq N G B,k⟩=some ((),⟨aq N G {B with t:={B.t with now:=B.t.now.set i q}},k⟩):=by
 have:=tn (C:=⟨aq N G B,k⟩) (v:=e9 q) (g7 (i:=.cur) rfl) (by simpa using aj) (by simp;omega)
 rw[this]
 refine cJ (λh=>some ((),bL.mk h k)) ?_
 refine za ?_ λj aW=>by rcases j with _|_<;>first|rfl|exact absurd rfl aW
 show some (cw.list _)=some (cw.list _)
 rw[List.map_set]
theorem S8 (Z:c4 N (k::p)) (aj:i<B.t.cD.length) (aP:B.t.cD.length<=100):aJ (n+1) p 388 [.ref (N.f .state),.ref (N.f .cR),.int i] ⟨aq N G B,k⟩=some (.none,⟨aq N G {B with t:={B.t with cD:=B.t.cD.set i (BF B.t.cL (B.t.cD.getD i (false,false)))}},k+1⟩):=by
 refine ko Z rfl (Q.Zj _ _ _ _ _) ?_
 cases h:B.t.cL
 .exact Q.B qD<|Q.B (yQ _ _)<|Q.B (Q.neT (by simp[h]))<|Q.B OB<|Q.B (LK aj aP)<|Q.B (Q.gy (al4 aj _))<|Q.B qD<|Q.B (yR _ _)<|Q.B (Q.ua (by simp[h]))<|rfl
 .exact Q.B qD<|Q.B (yQ _ _)<|Q.B (Q.ua (by simp[h]))<|Q.B qD<|Q.B (yR _ _)<|Q.B (Q.neT (by simp[h]))<|Q.B OB<|Q.B (LK aj aP)<|Q.B (Q.gy (al5 aj _))<|rfl
theorem k_put (Z:c4 N (k::p)) (aj:i<B.t.now.length) (aP:B.t.now.length<=100) (q):aJ (n+2) p 1269 [.ref (N.f .cR),.int i,e9 q] ⟨aq N G B,k⟩=some (.none,⟨aq N G {B with t:={B.t with now:=B.t.now.set i q}},k+1⟩):=by
 refine ko Z rfl (Q.YV _ _ _ _ _) ?_
 exact Q.B iN<|Q.B m9<|Q.B (Q.c_ rfl (mR (Z.sub _) aj aP))<|Q.B (Q.gy (V2 aj aP q))<|rfl
end
noncomputable def T.go (t:T) (i:Nat) (d:Int):T:=
 {t with now:=t.now.set i (up t.cL (t.now.getD i (0,0)) (d9 t.cL (t.now.getD i (0,0))+d)),cD:=t.cD.set i (BF t.cL (t.cD.getD i (false,false)))}
section
variable {N:fy} {G:bl} {B:fF}
theorem S4 (Z:c4 N (k::p)) (aj:i<B.t.now.length) (aP:B.t.now.length<=100) (a b):aJ (n+2) p 1269 [.ref (N.f .cR),.int i,.tup [.int a,.int b]] ⟨aq N G B,k⟩=some (.none,⟨aq N G {B with t:={B.t with now:=B.t.now.set i (a,b)}},k+1⟩):=
 k_put Z aj aP (a,b)
theorem Yt (h:b=false):item (rN b d) (.int 0) C=some (.int d,C):=by subst h;rfl
theorem Yu (h:b=true):item (rN b d) (.int 1) C=some (.int d,C):=by subst h;rfl
theorem S6 (Z:c4 N (k::p)) (aj:i<B.t.now.length) (aP:B.t.now.length<=100) (bY:B.t.cD.length=B.t.now.length) d:
  aJ (n+3) p 402 [.ref (N.f .state),.ref (N.f .cR),.int i,rN B.t.cL d,.bool true] ⟨aq N G B,k⟩=some (.none,⟨aq N G {B with t:=B.t.go i d},k+1⟩):=by
 refine ko Z rfl (Q.Zl _ _ _ _ _ _ _) ?_
 unfold T.go
 rcases B.t.cL.eq_false_or_eq_true with h|h
 .rw[show∀q:Int×Int,up B.t.cL q (d9 B.t.cL q+d)=(q.1,q.2+d)fromλq=>by rw[h];rfl]
  exact Q.B iN<|Q.B m9<|Q.B (Q.c_ rfl (mR (Z.sub _) aj aP))<|Q.B (jq aj aP)<|Q.B qD<|Q.B (yQ _ _)<|Q.B (Q.ua (by simp[h]))<|Q.B qD<|Q.B (yR _ _)<|Q.B (Q.neT (by simp[h]))<|Q.B (Yu h)<|Q.B Xa<|Q.B (Q.c_ rfl (S4 (Z.sub _) aj aP _ _))<|Q.B (S8 (Z.sub _) (bY▸aj) (bY▸aP))<|rfl
 .rw[show∀q:Int×Int,up B.t.cL q (d9 B.t.cL q+d)=(q.1+d,q.2)fromλq=>by rw[h];rfl]
  exact Q.B iN<|Q.B m9<|Q.B (Q.c_ rfl (mR (Z.sub _) aj aP))<|Q.B (jq aj aP)<|Q.B qD<|Q.B (yQ _ _)<|Q.B (Q.neT (by simp[h]))<|Q.B (Yt h)<|Q.B qD<|Q.B (yR _ _)<|Q.B (Q.ua (by simp[h]))<|Q.B Xa<|Q.B (Q.c_ rfl (S4 (Z.sub _) aj aP _ _))<|Q.B (S8 (Z.sub _) (bY▸aj) (bY▸aP))<|rfl
theorem agk (Z:c4 N (k::p)) (bE:B.t.cL=b) (aj:i<B.t.now.length) (aP:B.t.now.length<=100) (bY:B.t.cD.length=B.t.now.length) d:
  aJ (n+3) p 402 [.ref (N.f .state),.ref (N.f .cR),.int i,rN b d,.bool true] ⟨aq N G B,k⟩=some (.none,⟨aq N G {B with t:=B.t.go i d},k+1⟩):=bE▸S6 Z aj aP bY d
theorem af4 (Z:c4 N (k::p)) (aj:i<B.t.now.length) (aP:B.t.now.length<=100) (bY:B.t.cD.length=B.t.now.length) d:
  aJ (n+5) p 409 [.ref (N.f .work),.ref (N.f .cR),.int i,.int d] ⟨aq N G B,k⟩=some (.none,⟨aq N G {B with t:=B.t.go i d},k+1⟩):=by
 refine ko Z rfl (Q.Zm _ _ _ _ _ _) ?_
 exact Q.B cR<|Q.B cR<|Q.B (LU _)<|Q.B (S6 (Z.sub _) aj aP bY _)<|rfl
theorem C_ (x):aJ (n+1) p 557 [.int x] C=some (.int x.natAbs,⟨C.h,C.k+1⟩):=by
 refine jM rfl (Q.Zs _ _ _) ?_
 by_cases h:0<=x
 .rw[show(x.natAbs:Nat)=x by omega]
  exact Q.B (Q.pT h)<|rfl
 .rw[show(x.natAbs:Nat)=0 -x by omega]
  exact Q.B (Q.nV h)<|rfl
noncomputable def rM (d o:Int):Int:=if 0<=o then(if 64<=d then d else 64)else(if d<=-64 then d else -64)
theorem LR (d o:Int):aJ (n+1) p 571 [.ref (N.f .state),.int d,.int o] ⟨aq N G B,k⟩=some (.int (rM d o),⟨aq N G B,k+1⟩):=by
 refine jM rfl (Q.Zt _ _ _ _ _) ?_
 unfold rM
 by_cases h:0<=o
 .rw[bT h]
  by_cases bH:64<=d
  .rw[bT bH];exact Q.B (Q.pT h)<|Q.B BN<|Q.B (Q.pT bH)<|rfl
  .rw[bX bH];exact Q.B (Q.pT h)<|Q.B BN<|Q.B (Q.nV bH)<|Q.B BN<|rfl
 .rw[bX h]
  by_cases bH:d<=-64
  .rw[bT bH];exact Q.B (Q.nV h)<|Q.B BN<|Q.B (Q.yZ bH)<|rfl
  .rw[bX bH];exact Q.B (Q.nV h)<|Q.B BN<|Q.B (Q.De bH)<|Q.B BN<|rfl
theorem S0 (d t):aJ (n+2) p 578 [.ref (N.f .state),.int d,.int t] ⟨aq N G B,k⟩=some (.int d,⟨aq N G B,k+1⟩):=by
 refine jM rfl (Q.Zu _ _ _ _ _) ?_
 exact Q.B aoS<|Q.B (C_ _)<|Q.B aoR<|Q.B (Q.kQ (Int.not_lt.mpr (BX _)))<|rfl
theorem AW (Z:c4 N (k::p)) (b):aJ (n+1) p 599 [.ref (N.f .state),.int (i:Nat),.bool b] ⟨aq N G B,k⟩=some (.none,⟨aq N G {B with t:={B.t with cI:=if b then i else B.t.cI,cT:=B.t.cI,dO:=i}},k+1⟩):=by
 refine ko Z rfl (Q.Zx _ _ _ _ _) ?_
 rcases b with _|_<;>(first|exact Q.B Ox<|Q.B xK<|Q.B OF<|rfl|exact Q.B Ox<|Q.B xK<|Q.B OF<|Q.B zT<|rfl)
theorem LL:item (.ref (N.f .xM)) (.int 1) ⟨aq N G B,k⟩=some (.ref (N.f .cR),⟨aq N G B,k⟩):=jz (g7 rfl) rfl (by decide)
theorem nE:aJ (n+1) p 1206 [.ref (N.f .work),.int 1] ⟨aq N G B,k⟩=some (.ref (N.f .cR),⟨aq N G B,k+1⟩):=by
 refine jM rfl (Q.YN _ _ _ _) ?_
 have e:∀{C},Q.dK (dX .NotIn (.int 1) (.tup [.int 0,.int 1])) C=some (.bool false,C):=rfl
 exact Q.B e<|Q.B OA<|Q.B LL<|rfl
theorem GV (Z:c4 N (k::p)) (aj:B.t.cI<B.t.now.length) (aP:B.t.now.length<=100):aJ (n+2) p 606 [.ref (N.f .work)] ⟨aq N G B,k⟩=some (.tup [.ref (N.f .cR),.int B.t.cI],⟨aq N G B,k+1⟩):=by
 refine jM rfl (Q.Zy _ _ _) ?_
 exact Q.B nK<|Q.B cR<|Q.B uy<|Q.B (Q.c_ rfl nE)<|Q.B m9<|Q.B cR<|Q.B Ox<|Q.B (Q.c_ rfl (mR (Z.sub _) aj aP))<|rfl
theorem agY (aP:B.t.bf.length<=100):builtin p "len" [.ref (N.f .bf)] ⟨aq N G B,k⟩=some (.int B.t.bf.length,⟨aq N G B,k⟩):=by
 have:=o6 (p:=p) (C:=⟨aq N G B,k⟩) (g7 (i:=.bf) rfl) (by simp;omega)
 simpa using this
theorem afo (aj:i<B.t.bf.length) (aP:B.t.bf.length<=100):item (.ref (N.f .bf)) (.int i) ⟨aq N G B,k⟩=some (.int (B.t.bf.getD i 0),⟨aq N G B,k⟩):=
 jz (g7 rfl) (by rw[jI,h7 aj,kU,h7 aj];rfl) (by omega)
theorem al1 (aj:i<B.t.bf.length) (aP:B.t.bf.length<=100) (v):ju (.ref (N.f .bf)) (.int i) (.int v) ⟨aq N G B,k⟩=some ((),⟨aq N G {B with t:={B.t with bf:=B.t.bf.set i v}},k⟩):=by
 have:=tn (C:=⟨aq N G B,k⟩) (v:=.int v) (g7 (i:=.bf) rfl) (by simpa using aj) (by simp;omega)
 rw[this]
 refine cJ (λh=>some ((),bL.mk h k)) ?_
 refine za ?_ λj aW=>by rcases j with _|_<;>first|rfl|exact absurd rfl aW
 show some (cw.list _)=some (cw.list _)
 rw[List.map_set]
theorem LP (aj:i<B.t.bf.length) (aP:B.t.bf.length<=100):aJ (n+1) p 1213 [.ref (N.f .work),.int i] ⟨aq N G B,k⟩=some (.int (B.t.bf.getD i 0),⟨aq N G B,k+1⟩):=by
 refine jM rfl (Q.YO _ _ _ _) ?_
 exact Q.B (Q.yZ (BX i))<|Q.B OC<|Q.B (Q.iy (agY aP))<|Q.B (Q.j_ (Int.ofNat_lt.mpr aj))<|Q.B OC<|Q.B (afo aj aP)<|rfl
theorem age (Z:c4 N (k::p)) (aj:i<B.t.bf.length) (aP:B.t.bf.length<=100) (v):aJ (n+2) p 1220 [.ref (N.f .work),.int i,.int v] ⟨aq N G B,k⟩=some (.none,⟨aq N G {B with t:={B.t with bf:=B.t.bf.set i v}},k+1⟩):=by
 refine ko Z rfl (Q.YQ _ _ _ _ _) ?_
 exact Q.B OE<|Q.B (Q.c_ rfl (LP aj aP))<|Q.B OC<|Q.B (Q.gy (al1 aj aP v))<|rfl
theorem GW (Z:c4 N (k::p)):aJ (n+1) p 1227 [.ref (N.f .work)] ⟨aq N G B,k⟩=some (.int B.loop,⟨aq N G {B with loop:=1},k+1⟩):=by
 refine ko Z rfl (Q.YR _ _ _) ?_
 exact Q.B cR<|Q.B aoQ<|Q.B cR<|Q.B Xb<|rfl
theorem Uq {r:ay} (h:C.h r=some (.list l)) (e:(if Str.ofString x=="append" then ai (.bi "list.append")else if Str.ofString x=="pop" then ai (.bi "list.pop")else if Str.ofString x=="index" then ai (.bi "list.index")else no:aD I) C=some (.bi b,C)):i0 (.ref r) (Str.ofString x) C=some (.bi b,C):=by
 unfold i0;simp only[Y,obj,h];exact e
theorem V5:(aq N G B).set (N.f .nums) (.list (l.map I.int))=aq N G {B with t:={B.t with told:=l}}:=
 za rfl λj aW=>by rcases j with _|_<;>first|rfl|exact absurd rfl aW
theorem S2 (Z:c4 N (k::p)) (aP:B.t.told.length<64) v:aJ (n+1) p 1148 [.ref (N.f .stack),.int v] ⟨aq N G B,k⟩=some (.none,⟨aq N G {B with t:={B.t with told:=B.t.told++[v]}},k+1⟩):=by
 refine ko Z rfl (Q.YJ _ _ _ _) ?_
 have iI:(aq N G B) (N.f .nums)=some (.list (B.t.told.map I.int)):=g7 rfl
 have aI:(B.t.told.map I.int).length=B.t.told.length:=fD ..
 have bk:∀{p x},builtin p "len" [.ref (N.f .nums)] ⟨aq N G B,x⟩=some (.int B.t.told.length,⟨aq N G B,x⟩):=λ{p x}=>aI▸o6 iI (by omega)
 have bK:∀{x},i0 (.ref (N.f .nums)) (Str.ofString "append") ⟨aq N G B,x⟩=some (.bi "list.append",⟨aq N G B,x⟩):=λ{x}=>Uq iI rfl
 have gJ:∀{x q},builtin q "list.append" [.ref (N.f .nums),.int v] ⟨aq N G B,x⟩=some (.none,⟨aq N G {B with t:={B.t with told:=B.t.told++[v]}},x⟩):=λ{x q}=>by
  show Y (obj _) (jb _) _=_
  simp only[Y,obj,jb,iI,iU (show(B.t.told.map I.int).length<100000 by omega),jW,upd,ai]
  exact cJ (λh=>some (I.none,bL.mk h x)) ((show _=(aq N G B).set (N.f .nums) (.list ((B.t.told++[v]).map I.int)) by rw[qd];rfl).trans V5)
 exact Q.B IZ<|Q.B (Q.iy bk)<|Q.B aoU<|Q.B (Q.nV (show¬(64:Int)<=B.t.told.length by omega))<|Q.B IZ<|Q.B bK<|Q.B (Q.iy gJ)<|rfl
theorem rZ (Z:c4 N q):(aq N G B).set (j::q) o=aq N (G.set (j::q) o) B:=aic Z (uC j q)
theorem Ds (Z:c4 N q):aq N G B (j::q)=G (j::q):=by
 unfold aq
 cases e:N.g (j::q)with
 |none=>rfl
 |some i=>exact absurd (uC j q) (by rw[N.oY _ _ e];exact Z i)
theorem vv:jt q G (bu.set (j::q) o)=jt q G bu:=VD (uC j q)
theorem dP {r s:ay} (h:r≠s):(G.set s o) r=G r:=by unfold bl.set;rw[bX h]
theorem cP {r:ay}:(G.set r o) r=some o:=by unfold bl.set;rw[bT rfl]
theorem KO:∀(l:List Int),fH.kX (fH m h) (l.map I.int)=some (l.map PyData.int)
 |[]=>rfl
 |i::l=>by
  have:=KO (m:=m) (h:=h) l
  show(match fH m h (.int i),fH.kX (fH m h) (l.map I.int)with|some d,some fZ=>some (d::fZ)|_,_=>none)=_
  rw[this]
  rcases m with _|_<;>rfl
theorem KV {a b:ay} {l:List Int} (az:C.h a=some (.list (l.map I.int))) (aE:C.h b=some (.list [])):dX .Eq (.ref a) (.ref b) C=some (l.isEmpty,C):=by
 show tD _ _ C=_
 unfold tD
 have bk:fH 3 C.h (.ref a)=some (.list (l.map PyData.int)):=by
  show(match C.h a with|some (.list aa)=>(fH.kX (fH 2 C.h) aa).map PyData.list|_=>none)=_
  rw[az];dsimp only;rw[KO];rfl
 have bK:fH 3 C.h (.ref b)=some (.list []):=by
  show(match C.h b with|some (.list aa)=>(fH.kX (fH 2 C.h) aa).map PyData.list|_=>none)=_
  rw[aE];rfl
 rw[bk,bK]
 rcases l with _|_<;>rfl
theorem agb (Z:c4 N (k::p)) {xs:List Int} (aR:B.t.told=xs++[v]) (aP:xs.length<64):aJ (n+1) p 1155 [.ref (N.f .stack)] ⟨aq N G B,k⟩=some (.int v,⟨aq N G {B with t:={B.t with told:=xs}},k+1⟩):=by
 have iI:∀G:bl,(aq N G B) (N.f .nums)=some (.list (B.t.told.map I.int)):=λG=>g7 rfl
 have bk:∀{x},Q.dK (dX .Eq (.ref (N.f .nums)) (.ref (0::k::p))) ⟨aq N (G.set (0::k::p) (.list [])) B,x⟩=some (.bool false,⟨aq N (G.set (0::k::p) (.list [])) B,x⟩):=λ{x}=>
  Q.iC (by rw[KV (iI _) ((Ds Z).trans cP),aR];simp)
 have bK:∀{G:bl} {x},i0 (.ref (N.f .nums)) (Str.ofString "pop") ⟨aq N G B,x⟩=some (.bi "list.pop",⟨aq N G B,x⟩):=λ{G x}=>Uq (iI _) rfl
 have gJ:∀{G:bl} {x q},builtin q "list.pop" [.ref (N.f .nums)] ⟨aq N G B,x⟩=some (.int v,⟨aq N G {B with t:={B.t with told:=xs}},x⟩):=λ{G x q}=>by
  show Y (obj _) (jb _) _=_
  have hz:decide ((B.t.told.map I.int).length<=100000)=true:=by rw[aR];simp;omega
  have aI:(B.t.told.map I.int).getLast?=some (.int v):=by rw[aR];simp
  have hd:(B.t.told.map I.int).dropLast=xs.map I.int:=by rw[aR];simp
  simp only[Y,obj,jb,iI,hz,aI,hd,jW,upd,ai,gU]
  rw[V5]
 have sI:iK (k::p) [] ⟨aq N G B,0⟩=some (.ref (0::k::p),⟨aq N (G.set (0::k::p) (.list [])) B,1⟩):=cJ (λh=>some (I.ref (0::k::p),bL.mk h 1)) (rZ Z)
 rw[Q.uT (az:=aq N (G.set (0::k::p) (.list [])) {B with t:={B.t with told:=xs}}) rfl (Q.YK _ _ _) ?_,DQ Z,vv,p8]
 exact Q.B IZ<|Q.B sI<|Q.B bk<|Q.B IZ<|Q.B bK<|Q.B (Q.iy gJ)<|rfl
end
noncomputable def gB (c:Int):Int×Int×Int:=if c=24 then(64,0,32)else if c=25 then(64,32,32)else if c=61 then(32,0,16)else if c=125 then(64,0,0)else if c=124 then(64,0,63)else(0,0,0)
noncomputable def DX (c s:Int):Int:=if c=24 then(s+32).fdiv 64*64 else if c=25 then s.fdiv 64*64+32 else if c=61 then(s+16).fdiv 32*32 else if c=125 then s.fdiv 64*64 else if c=124 then(s+63).fdiv 64*64 else s
noncomputable def gG (c d:Int):Int:=if 0<=d then DX c d.natAbs else 0 -DX c d.natAbs
def l6 (c:Int):Prop:=c=24\/c=25\/c=61\/c=125\/c=124\/c=122
noncomputable def ug (a b t d:Int):Int:=if a=0 then d else if 0<=d then(if(d -b+t).fdiv a*a+b<0 then b else(d -b+t).fdiv a*a+b)else 0 -(if(0 -d -b+t).fdiv a*a+b<0 then b else(0 -d -b+t).fdiv a*a+b)
theorem ajb {x a b:Int} (bE:0<=x) (aY:0<=a) (aP:0<=b):¬x.fdiv a*a+b<0:=by
 rw[EN x aY]
 exact Int.not_lt.mpr (EI (Int.mul_nonneg (Int.ediv_nonneg bE aY) aY) aP)
theorem VU (h:l6 c) (aR:0<=s) (cj:(gB c).1≠0):(if(s -(gB c).2.1+(gB c).2.2).fdiv (gB c).1*(gB c).1+(gB c).2.1<0 then(gB c).2.1 else(s -(gB c).2.1+(gB c).2.2).fdiv (gB c).1*(gB c).1+(gB c).2.1)=DX c s:=by
 have go:∀{a b t:Int},0<=s -b+t->0<=a->0<=b->(if(s -b+t).fdiv a*a+b<0 then b else(s -b+t).fdiv a*a+b)=(s -b+t).fdiv a*a+b:=λx y z=>bX (ajb x y z)
 have Il:=(EJ s).symm▸aR
 rcases h with rfl|rfl|rfl|rfl|rfl|rfl
 .exact(go (EI Il (by decide)) (by decide) (by decide)).trans (by rw[EJ];exact EK _)
 .exact(go ((Int.sub_add_cancel s 32).symm▸aR) (by decide) (by decide)).trans (cJ (λx:Int=>x.fdiv 64*64+32) (Int.sub_add_cancel s 32))
 .exact(go (EI Il (by decide)) (by decide) (by decide)).trans (by rw[EJ];exact EK _)
 .exact(go (EI Il (by decide)) (by decide) (by decide)).trans ((EK _).trans (cJ (λx:Int=>x.fdiv 64*64) ((EK _).trans (EJ s))))
 .exact(go (EI Il (by decide)) (by decide) (by decide)).trans (by rw[EJ];exact EK _)
 .exact absurd rfl cj
theorem VT (h:l6 c) (cj:(gB c).1=0):DX c s=s:=by
 rcases h with rfl|rfl|rfl|rfl|rfl|rfl<;>first|rfl|cases cj
theorem alo (h:l6 c) d:ug (gB c).1 (gB c).2.1 (gB c).2.2 d=gG c d:=by
 unfold ug gG
 by_cases hd:0<=d
 .rw[bT hd,show(d.natAbs:Nat)=d by omega]
  by_cases cj:(gB c).1=0
  .rw[bT cj,VT h cj,bT hd]
  .rw[bX cj,bT hd,VU h hd cj]
 .rw[bX hd,show(d.natAbs:Nat)=0 -d by omega]
  by_cases cj:(gB c).1=0
  .rw[bT cj,VT h cj];omega
  .rw[bX cj,bX hd,VU h (by omega) cj]
structure qS (N:fy) (G:bl) r c:Prop where
 code:l6 c
 at_:∃p7,G r=some (.inst 525 p7)/\G p7=some (.attrs [("period",.int (gB c).1),("phase",.int (gB c).2.1),("threshold",.int (gB c).2.2)])/\N.g r=none/\N.g p7=none
theorem an7 (h:l6 c):0<=(gB c).1/\(gB c).1<=64:=by
 rcases h with rfl|rfl|rfl|rfl|rfl|rfl<;>exact⟨by decide,by decide⟩
section
variable {N:fy} {G:bl} {B:fF}
theorem lS {r:ay} (h:N.g r=none):aq N G B r=G r:=by unfold aq;rw[h]
theorem yV {r:ay} (aQ:qS N G r c) (d):aJ (n+1) p 550 [.int d,.ref r] ⟨aq N G B,k⟩=some (.int (gG c d),⟨aq N G B,k+1⟩):=by
 refine iu λaH ez=>?_
 obtain⟨p7,az,aE,b8,cH⟩:=aQ.at_
 have gx:∀{x},fB (.ref r) (Str.ofString "period") ⟨aq N G B,x⟩=some (.int (gB c).1,⟨aq N G B,x⟩):=mP ((lS b8).trans az) ((lS cH).trans aE) rfl rfl rfl rfl
 have iX:∀{x},fB (.ref r) (Str.ofString "phase") ⟨aq N G B,x⟩=some (.int (gB c).2.1,⟨aq N G B,x⟩):=mP ((lS b8).trans az) ((lS cH).trans aE) rfl rfl rfl rfl
 have jf:∀{x},fB (.ref r) (Str.ofString "threshold") ⟨aq N G B,x⟩=some (.int (gB c).2.2,⟨aq N G B,x⟩):=mP ((lS b8).trans az) ((lS cH).trans aE) rfl rfl rfl rfl
 obtain⟨pB,s2⟩:=an7 aQ.code
 refine ez ?_
 refine jM rfl (Q.Zr _ _ _ _) ?_
 rw[<-alo aQ.code]
 generalize (gB c).1=a at*
 generalize (gB c).2.1=b at*
 generalize (gB c).2.2=t at*
 unfold ug
 by_cases aY:a=0
 .rw[bT aY]
  exact Q.B gx<|Q.B iX<|Q.B (Q.eqT aY)<|rfl
 .rw[bX aY]
  have hd:∀{p x C},fk p .FloorDiv (.int x) (.int a) C=some (.int (x.fdiv a),C):=λ{p x C}=>eZ (yh aY (by omega) (by omega)) C
  have bM:∀{p x C},fk p .Mult (.int x) (.int a) C=some (.int (x*a),C):=λ{p x C}=>Q.o_ (sZ (by omega) (by omega))
  by_cases cA:0<=d
  .rw[bT cA]
   by_cases bD:(d -b+t).fdiv a*a+b<0
   .rw[bT bD];exact Q.B gx<|Q.B iX<|Q.B (Q.eN aY)<|Q.B (Q.pT cA)<|Q.B jf<|Q.B hd<|Q.B bM<|Q.B (Q.j_ bD)<|Q.B (Q.pT cA)<|rfl
   .rw[bX bD];exact Q.B gx<|Q.B iX<|Q.B (Q.eN aY)<|Q.B (Q.pT cA)<|Q.B jf<|Q.B hd<|Q.B bM<|Q.B (Q.kQ bD)<|Q.B (Q.pT cA)<|rfl
  .rw[bX cA]
   by_cases bD:(0 -d -b+t).fdiv a*a+b<0
   .rw[bT bD];exact Q.B gx<|Q.B iX<|Q.B (Q.eN aY)<|Q.B (Q.nV cA)<|Q.B jf<|Q.B hd<|Q.B bM<|Q.B (Q.j_ bD)<|Q.B (Q.nV cA)<|rfl
   .rw[bX bD];exact Q.B gx<|Q.B iX<|Q.B (Q.eN aY)<|Q.B (Q.nV cA)<|Q.B jf<|Q.B hd<|Q.B bM<|Q.B (Q.kQ bD)<|Q.B (Q.nV cA)<|rfl
end
theorem apF:t7 .none=true/\(∀i,t7 (.int i)=true)/\((false=true)=False)/\(decide True=true)/\(decide False=false):=⟨rfl,λU=>rfl,by simp,by simp,by simp⟩
noncomputable def T.P (t:T) (i:Nat):Int:=d9 t.cL (t.now.getD i (0,0))
noncomputable def T.O (t:T) (i:Nat):Int:=d9 t.cL (t.cF.getD i (0,0))
noncomputable def T.dw (t:T) (l:List Int):T:={t with told:=l}
structure T.cG (t:T) m:Prop where
 now:t.now.length=m
 cF:t.cF.length=m
 cD:t.cD.length=m
 bf:t.bf.length=3
 ia:m<=7
theorem T.cG.ak {t:T} (F:t.cG m) (h:i<m):i<t.now.length:=F.now▸h
theorem T.cG.gH {t:T} (F:t.cG m) (h:i<m):i<t.cF.length:=F.cF▸h
theorem T.cG.dM {t:T} (F:t.cG m):t.now.length<=100:=F.now▸d5 F.ia (by decide)
theorem T.cG.k_ {t:T} (F:t.cG m):t.cF.length<=100:=F.cF▸d5 F.ia (by decide)
theorem T.cG.oM {t:T} (F:t.cG m):t.cD.length=t.now.length:=F.cD.trans F.now.symm
theorem T.cG.pQ {t:T} (F:t.cG m) (h:j<3):j<t.bf.length:=F.bf▸h
theorem T.cG.yj {t:T} (F:t.cG m):t.bf.length<=100:=F.bf▸(by decide)
noncomputable abbrev fF.xJ (B:fF) (l:List Int):fF:={B with t:=B.t.dw l}
section
variable {N:fy} {G:bl} {B:fF}
theorem jQ {xs:List Int} (Z:c4 N (k::p)) (aR:B.t.told=xs++[v]) (aP:xs.length<64):aJ (n+1) p 1155 [.ref (N.f .stack)] ⟨aq N G B,k⟩=some (.int v,⟨aq N G (B.xJ xs),k+1⟩):=agb Z aR aP
theorem pY (Z:c4 N (k::p)) (aj:i<B.t.now.length) (aP:B.t.now.length<=100) (bY:B.t.cD.length=B.t.now.length):
  aJ (n+5) p 409 [.ref (N.f .work),.ref (N.f .cR),.int i,.int d] ⟨aq N G B,k⟩=some (.none,⟨aq N G {B with t:=B.t.go i d},k+1⟩):=af4 Z aj aP bY d
theorem LS {v:Int} (Z:c4 N (k::p)) (aP:B.t.told.length<64):aJ (n+1) p 1148 [.ref (N.f .stack),.int v] ⟨aq N G B,k⟩=some (.none,⟨aq N G (B.xJ (B.t.told++[v])),k+1⟩):=S2 Z aP v
end
theorem mw (h:n<60):n<64:=fV h (by decide)
theorem kK:fk p .Mod (.int x) (.int 2) C=some (.int (x.fmod 2),C):=Q.n4 (by decide)
noncomputable def T.rX (t:T) (i:Nat) (f:Bool):T:={t.go i (if f then gG t.round (t.P i) -t.P i else 0)with cI:=i,cT:=i}
noncomputable def T.qo (t:T) (i:Nat) (v:Int) (f:Bool):T:={t.go i ((if f then gG t.round (if 68<((v -t.P i).natAbs:Int)then t.P i else v)else v) -t.P i)with cI:=i,cT:=i}
section
variable {N:fy} {G:bl} {B:fF} {i m:Nat}
theorem af0 (Z:c4 N (k::p)) (aQ:qS N G B.gc B.t.round) (F:B.t.cG m) (aR:B.t.told=xs++[(i:Int)]) (aP:xs.length<64) (aj:i<m) c (f) (aN:decide (c.fmod 2=1)=f):
  aJ (n+6) p 585 [.ref (N.f .work),.int c] ⟨aq N G B,k⟩=some (.none,⟨aq N G {B with t:=(B.t.dw xs).rX i f},k+1⟩):=by
 refine ko Z rfl (Q.Zv _ _ _ _) ?_
 rcases f with _|_<;>(first|exact Q.B cR<|Q.B gC<|Q.B jU<|Q.B (Q.c_ rfl (jQ (Z.sub _) aR aP))<|Q.B nK<|Q.B uy<|Q.B (Q.c_ rfl nE)<|Q.B (GY (Z.sub _) (F.ak aj) F.dM)<|Q.B kK<|Q.B (Q.iz aN)<|Q.B (pY (Z.sub _) (F.ak aj) F.dM F.oM)<|Q.B zT<|Q.B xK<|rfl|exact Q.B cR<|Q.B gC<|Q.B jU<|Q.B (Q.c_ rfl (jQ (Z.sub _) aR aP))<|Q.B nK<|Q.B uy<|Q.B (Q.c_ rfl nE)<|Q.B (GY (Z.sub _) (F.ak aj) F.dM)<|Q.B kK<|Q.B (Q.iz aN)<|Q.B zR<|Q.B (yV aQ _)<|Q.B (pY (Z.sub _) (F.ak aj) F.dM F.oM)<|Q.B zT<|Q.B xK<|rfl)
end
noncomputable def T.tf (t:T) (i:Nat) (f:Bool):T:={t with cI:=if f then i else t.cI,cT:=t.cI,dO:=i}
noncomputable def T.mU (t:T) (i:Nat) (lu pR oX:Bool):T:=
 (t.go i ((if pR then rM (if lu then gG t.round (t.O i -t.O t.cI)else t.O i -t.O t.cI) (t.O i -t.O t.cI)else(if lu then gG t.round (t.O i -t.O t.cI)else t.O i -t.O t.cI)) -(t.P i -t.P t.cI))).tf i oX
noncomputable def Ff (c:Int) (o v:Int) (lu:Bool):Int:=
 if lu then gG c (if 68<(((if decide (o<0)=decide (v<0)then v else 0 -v) -o).natAbs:Int)then o else(if decide (o<0)=decide (v<0)then v else 0 -v))else(if decide (o<0)=decide (v<0)then v else 0 -v)
noncomputable def T.o9 (t:T) (i:Nat) (v:Int) (lu pR oX:Bool):T:=
 (t.go i ((if pR then rM (Ff t.round (t.O i -t.O t.cI) v lu) (t.O i -t.O t.cI)else Ff t.round (t.O i -t.O t.cI) v lu) -(t.P i -t.P t.cI))).tf i oX
noncomputable def T.r5 (t:T) (i:Nat) (d:Int) (f:Bool):T:=(t.go i (d -(t.P i -t.P t.cI))).tf i f
theorem aaq (p) (x):fk p .FloorDiv (.int x) (.int 4)=ai (.int (x.fdiv 4)):=yh (by decide) (by decide) (by decide)
theorem aar (p) (x):fk p .FloorDiv (.int x) (.int 8)=ai (.int (x.fdiv 8)):=yh (by decide) (by decide) (by decide)
theorem aap (p) (x):fk p .FloorDiv (.int x) (.int 16)=ai (.int (x.fdiv 16)):=yh (by decide) (by decide) (by decide)
theorem J5:fk p .FloorDiv (.int x) (.int 4) C=some (.int (x.fdiv 4),C):=eZ (aaq p x) C
theorem Ai:fk p .FloorDiv (.int x) (.int 8) C=some (.int (x.fdiv 8),C):=eZ (aar p x) C
theorem wk:fk p .FloorDiv (.int x) (.int 16) C=some (.int (x.fdiv 16),C):=eZ (aap p x) C
theorem El {B:fF} (h:B.t.told=xs++[a,b]):B.t.told=(xs++[a])++[b]:=by rw[h,nM];rfl
theorem A0 (h:xs.length<60):(xs++[a]).length<64:=by rw[gO];exact lW (ON h 1) (by decide)
section
variable {N:fy} {G:bl} {B:fF} {i m:Nat}
theorem af2 (Z:c4 N (k::p)) (aQ:qS N G B.gc B.t.round) (F:B.t.cG m) {j:Nat} (aR:B.t.told=xs++[(i:Int),j]) (aP:xs.length<60) (aj:i<m) (aW:j<3) (c) (f) (aN:decide (c.fmod 2=1)=f):
  aJ (n+6) p 592 [.ref (N.f .work),.int c] ⟨aq N G B,k⟩=some (.none,⟨aq N G {B with t:=(B.t.dw xs).qo i (B.t.bf.getD j 0) f},k+1⟩):=by
 refine ko Z rfl (Q.Zw _ _ _ _) ?_
 refine Q.B cR<|Q.B OE<|Q.B gC<|Q.B jU<|Q.B (Q.c_ rfl (jQ (Z.sub _) (El aR) (A0 aP)))<|Q.B (Q.c_ rfl (LP (F.pQ aW) F.yj))<|Q.B gC<|Q.B jU<|Q.B (Q.c_ rfl (jQ (Z.sub _) rfl (mw aP)))<|Q.B nK<|Q.B uy<|Q.B (Q.c_ rfl nE)<|Q.B m9<|Q.B (Q.c_ rfl (mR (Z.sub _) (F.ak aj) F.dM))<|Q.B uy<|Q.B (Q.eN (by decide))<|Q.B (GY (Z.sub _) (F.ak aj) F.dM)<|Q.B kK<|?_
 rcases f with _|_
 .exact Q.B (Q.iz aN)<|Q.B (pY (Z.sub _) (F.ak aj) F.dM F.oM)<|Q.B zT<|Q.B xK<|rfl
 .refine Q.B (Q.iz aN)<|Q.B (C_ _)<|Q.B W4<|?_
  by_cases h:68<(((B.t.bf.getD j 0 -(B.t.dw xs).P i).natAbs:Nat):Int)
  .unfold T.qo
   rw[bT rfl,bT h]
   exact Q.B (Q.wQ h)<|Q.B zR<|Q.B (yV aQ _)<|Q.B (pY (Z.sub _) (F.ak aj) F.dM F.oM)<|Q.B zT<|Q.B xK<|rfl
  .unfold T.qo
   rw[bT rfl,bX h]
   exact Q.B (Q.uZ h)<|Q.B zR<|Q.B (yV aQ _)<|Q.B (pY (Z.sub _) (F.ak aj) F.dM F.oM)<|Q.B zT<|Q.B xK<|rfl
theorem af1 (Z:c4 N (k::p)) (aQ:qS N G B.gc B.t.round) (F:B.t.cG m) (aR:B.t.told=xs++[(i:Int)]) (aP:xs.length<60) (aj:i<m) (cj:B.t.cI<m) c (cH:decide ((c.fdiv 4).fmod 2=1)=lu) (jg:decide ((c.fdiv 8).fmod 2=1)=pR) (iJ:decide ((c.fdiv 16).fmod 2=1)=oX):
  aJ (n+6) p 613 [.ref (N.f .work),.int c] ⟨aq N G B,k⟩=some (.none,⟨aq N G {B with t:=(B.t.dw xs).mU i lu pR oX},k+1⟩):=by
 refine ko Z rfl (Q.Zz _ _ _ _) ?_
 refine Q.B cR<|Q.B gC<|Q.B jU<|Q.B (Q.c_ rfl (jQ (Z.sub _) aR (mw aP)))<|Q.B (GV (Z.sub _) (F.ak cj) F.dM)<|Q.B nK<|Q.B uz<|Q.B (Q.c_ rfl nE)<|Q.B qb<|Q.B m9<|Q.B (Q.c_ rfl (mR (Z.sub _) (F.ak aj) F.dM))<|Q.B (pV (F.gH aj) F.k_)<|Q.B qb<|Q.B (pV (F.gH cj) F.k_)<|Q.B (AU _ _)<|Q.B (C_ _)<|Q.B (S0 _ _)<|Q.B J5<|Q.B kK<|?_
 rcases lu with _|_<;>rcases pR with _|_<;>
  (first|exact Q.B (Q.iz cH)<|Q.B Ai<|Q.B kK<|Q.B (Q.iz jg)<|Q.B iN<|Q.B (jq (F.ak aj) F.dM)<|Q.B iN<|Q.B (jq (F.ak cj) F.dM)<|Q.B (q3 _ _)<|Q.B (pY (Z.sub _) (F.ak aj) F.dM F.oM)<|Q.B wk<|Q.B kK<|Q.B (Q.iz iJ)<|Q.B (AW (Z.sub _) _)<|rfl|exact Q.B (Q.iz cH)<|Q.B Ai<|Q.B kK<|Q.B (Q.iz jg)<|Q.B (LR _ _)<|Q.B iN<|Q.B (jq (F.ak aj) F.dM)<|Q.B iN<|Q.B (jq (F.ak cj) F.dM)<|Q.B (q3 _ _)<|Q.B (pY (Z.sub _) (F.ak aj) F.dM F.oM)<|Q.B wk<|Q.B kK<|Q.B (Q.iz iJ)<|Q.B (AW (Z.sub _) _)<|rfl|exact Q.B (Q.iz cH)<|Q.B zR<|Q.B (yV aQ _)<|Q.B Ai<|Q.B kK<|Q.B (Q.iz jg)<|Q.B iN<|Q.B (jq (F.ak aj) F.dM)<|Q.B iN<|Q.B (jq (F.ak cj) F.dM)<|Q.B (q3 _ _)<|Q.B (pY (Z.sub _) (F.ak aj) F.dM F.oM)<|Q.B wk<|Q.B kK<|Q.B (Q.iz iJ)<|Q.B (AW (Z.sub _) _)<|rfl|exact Q.B (Q.iz cH)<|Q.B zR<|Q.B (yV aQ _)<|Q.B Ai<|Q.B kK<|Q.B (Q.iz jg)<|Q.B (LR _ _)<|Q.B iN<|Q.B (jq (F.ak aj) F.dM)<|Q.B iN<|Q.B (jq (F.ak cj) F.dM)<|Q.B (q3 _ _)<|Q.B (pY (Z.sub _) (F.ak aj) F.dM F.oM)<|Q.B wk<|Q.B kK<|Q.B (Q.iz iJ)<|Q.B (AW (Z.sub _) _)<|rfl)
end
section
variable {N:fy} {G:bl} {B:fF} {i m:Nat}
theorem af5 (Z:c4 N (k::p)) (F:B.t.cG m) (aR:B.t.told=xs++[(i:Int),d]) (aP:xs.length<60) (aj:i<m) (cj:B.t.cI<m) (c) (aN:decide (c.fmod 2=1)=f):
  aJ (n+6) p 627 [.ref (N.f .work),.int c] ⟨aq N G B,k⟩=some (.none,⟨aq N G {B with t:=(B.t.dw xs).r5 i d f},k+1⟩):=by
 refine ko Z rfl (Q.ZB _ _ _ _) ?_
 exact Q.B cR<|Q.B gC<|Q.B jU<|Q.B (Q.c_ rfl (jQ (Z.sub _) (El aR) (A0 aP)))<|Q.B gC<|Q.B jU<|Q.B (Q.c_ rfl (jQ (Z.sub _) rfl (mw aP)))<|Q.B (GV (Z.sub _) (F.ak cj) F.dM)<|Q.B nK<|Q.B uz<|Q.B (Q.c_ rfl nE)<|Q.B m9<|Q.B (Q.c_ rfl (mR (Z.sub _) (F.ak aj) F.dM))<|Q.B uz<|Q.B (Q.eN (by decide))<|Q.B iN<|Q.B (jq (F.ak aj) F.dM)<|Q.B iN<|Q.B (jq (F.ak cj) F.dM)<|Q.B (q3 _ _)<|Q.B (pY (Z.sub _) (F.ak aj) F.dM F.oM)<|Q.B kK<|Q.B (Q.iz aN)<|Q.B (AW (Z.sub _) _)<|rfl
section
theorem Uv (Z:c4 N (k::p)) (F:B.t.cG m) (aj:i<m) (o) (iJ:decide ((c.fdiv 16).fmod 2=1)=yC):
  Q.go ((Q.Kq (aJ (n+5)) (k::p) (.ref (N.f .work)) (.int c) (.ref (N.f .state)) (.int v) (.int i) (.ref (N.f .cR)) (.int B.t.cI) (.ref (N.f .cR)) x (.int o) (.int (B.t.P i -B.t.P B.t.cI))).cps Q.ret) ⟨aq N G B,au⟩=
   some (.none,aq N G {B with t:=(B.t.go i (v -(B.t.P i -B.t.P B.t.cI))).tf i yC}):=Q.B (pY (Z.sub _) (F.ak aj) F.dM F.oM)<|Q.B wk<|Q.B kK<|Q.B (Q.iz iJ)<|Q.B (AW (Z.sub _) _)<|rfl
theorem MF (Z:c4 N (k::p)) (F:B.t.cG m) (aj:i<m) (o) (jg:decide ((c.fdiv 8).fmod 2=1)=mq) (iJ:decide ((c.fdiv 16).fmod 2=1)=yC):
  Q.go ((Q.Kp (aJ (n+5)) (k::p) (.ref (N.f .work)) (.int c) (.ref (N.f .state)) (.int v) (.int i) (.ref (N.f .cR)) (.int B.t.cI) (.ref (N.f .cR)) x (.int o) (.int (B.t.P i -B.t.P B.t.cI))).cps Q.ret) ⟨aq N G B,au⟩=
   some (.none,aq N G {B with t:=(B.t.go i ((if mq then rM v o else v) -(B.t.P i -B.t.P B.t.cI))).tf i yC}):=by
 rcases mq with _|_
 .exact Q.B Ai<|Q.B kK<|Q.B (Q.iz jg)<|Uv Z F aj o iJ
 .exact Q.B Ai<|Q.B kK<|Q.B (Q.iz jg)<|Q.B (LR _ _)<|Uv Z F aj o iJ
theorem Uu (Z:c4 N (k::p)) (aQ:qS N G B.gc B.t.round) (F:B.t.cG m) (aj:i<m) (o) (cH:decide ((c.fdiv 4).fmod 2=1)=kN) (jg:decide ((c.fdiv 8).fmod 2=1)=mq) (iJ:decide ((c.fdiv 16).fmod 2=1)=yC):
  Q.go ((Q.Ko (aJ (n+5)) (k::p) (.ref (N.f .work)) (.int c) (.ref (N.f .state)) (.int v) (.int i) (.ref (N.f .cR)) (.int B.t.cI) (.ref (N.f .cR)) x (.int o) (.int (B.t.P i -B.t.P B.t.cI))).cps Q.ret) ⟨aq N G B,au⟩=
   some (.none,aq N G {B with t:=(B.t.go i ((if mq then rM (if kN then gG B.t.round (if 68<((v -o).natAbs:Int)then o else v)else v) o else if kN then gG B.t.round (if 68<((v -o).natAbs:Int)then o else v)else v) -(B.t.P i -B.t.P B.t.cI))).tf i yC}):=by
 rcases kN with _|_
 .exact Q.B J5<|Q.B kK<|Q.B (Q.iz cH)<|MF Z F aj o jg iJ
 .refine Q.B J5<|Q.B kK<|Q.B (Q.iz cH)<|Q.B uy<|Q.B uz<|Q.B (Q.eqT rfl)<|Q.B (C_ _)<|Q.B W4<|?_
  by_cases h:68<(((v -o).natAbs:Nat):Int)
  .rw[bT rfl,bT h]
   exact Q.B (Q.wQ h)<|Q.B zR<|Q.B (yV aQ _)<|MF Z F aj o jg iJ
  .rw[bT rfl,bX h]
   exact Q.B (Q.uZ h)<|Q.B zR<|Q.B (yV aQ _)<|MF Z F aj o jg iJ
end
theorem T9:Q.dK (dX .Lt (.int a) (.int b)) C=some (.bool (decide (a<b)),C):=rfl
theorem ai0 (h:a=b):Q.dK (dX .NotEq (.bool a) (.bool b)) C=some (.bool false,C):=by subst h;rcases a with _|_<;>rfl
theorem ai1 (h:¬a=b):Q.dK (dX .NotEq (.bool a) (.bool b)) C=some (.bool true,C):=by rcases a with _|_<;>rcases b with _|_<;>first|rfl|exact absurd rfl h
theorem af3 (Z:c4 N (k::p)) (aQ:qS N G B.gc B.t.round) (F:B.t.cG m) {j:Nat} (aR:B.t.told=xs++[(i:Int),j]) (aP:xs.length<60) (aj:i<m) (aW:j<3) (cj:B.t.cI<m) (c) (cH:decide ((c.fdiv 4).fmod 2=1)=kN) (jg:decide ((c.fdiv 8).fmod 2=1)=mq) (iJ:decide ((c.fdiv 16).fmod 2=1)=yC):
  aJ (n+6) p 620 [.ref (N.f .work),.int c] ⟨aq N G B,k⟩=some (.none,⟨aq N G {B with t:=(B.t.dw xs).o9 i (B.t.bf.getD j 0) kN mq yC},k+1⟩):=by
 refine ko Z rfl (Q.ZA _ _ _ _) ?_
 refine Q.B cR<|Q.B OE<|Q.B gC<|Q.B jU<|Q.B (Q.c_ rfl (jQ (Z.sub _) (El aR) (A0 aP)))<|Q.B (Q.c_ rfl (LP (F.pQ aW) F.yj))<|Q.B gC<|Q.B jU<|Q.B (Q.c_ rfl (jQ (Z.sub _) rfl (mw aP)))<|Q.B (GV (Z.sub _) (F.ak cj) F.dM)<|Q.B nK<|Q.B uz<|Q.B (Q.c_ rfl nE)<|Q.B m9<|Q.B (Q.c_ rfl (mR (Z.sub _) (F.ak aj) F.dM))<|Q.B (C_ _)<|Q.B (S0 _ _)<|Q.B uz<|Q.B (Q.eN (by decide))<|Q.B qb<|Q.B (pV (F.gH aj) F.k_)<|Q.B qb<|Q.B (pV (F.gH cj) F.k_)<|Q.B (AU _ _)<|Q.B iN<|Q.B (jq (F.ak aj) F.dM)<|Q.B iN<|Q.B (jq (F.ak cj) F.dM)<|Q.B (q3 _ _)<|Q.B aoT<|Q.B T9<|Q.B T9<|?_
 have iV:(B.t.dw xs).cG m:=⟨F.now,F.cF,F.cD,F.bf,F.ia⟩
 unfold T.o9 Ff
 by_cases h:decide ((B.t.dw xs).O i -(B.t.dw xs).O (B.t.dw xs).cI<0)=decide (B.t.bf.getD j 0<0)
 .rw[bT h]
  refine Q.B (ai0 h) ?_
  exact Uu (B:=(B.xJ (xs++[(i:Int)])).xJ xs) Z aQ iV aj _ cH jg iJ
 .rw[bX h]
  refine Q.B (ai1 h) ?_
  exact Uu (B:=(B.xJ (xs++[(i:Int)])).xJ xs) Z aQ iV aj _ cH jg iJ
end
noncomputable def cY (i:Nat):Int:=(i:Int)
theorem Vj {b9:Type} {body:aL->(aL->aD I)->aD I} {K:aL->aD I} {R:I->b9->aL} {af:T->fF} {cZ:T->Prop} {N:fy} {G:bl}
  (nC:∀w v u au,gr u (R w v) au=au (R u v))
  (aP:∀u v t i jG k au,cZ t->i<m->jG.length<60->∃fU,body (R u v) au ⟨aq N G (af (t.dw (jG++[cY i]))),k⟩=au (R u fU) ⟨aq N G (af (f (t.dw jG) i)),k+c⟩)
  (ow:∀t i,cZ t->i<m->cZ (f t i)) (bD:∀t i l,f (t.dw l) i=(f t i).dw l) (bE:xs.length+aC<60) (av:List Nat):
  ∀t k w v dY fS,cZ t->(∀i∈av,i<m)->av.length<dY->fS+av.length=aC->
   ∃ig fU,gP body gr (.eo 0 (aC:Nat)) K dY fS (R w v) ⟨aq N G (af (t.dw (xs++av.reverse.map cY))),k⟩=K (R ig fU) ⟨aq N G (af ((av.foldl f t).dw xs)),k+c*av.length⟩:=by
 induction av with
 |nil=>
  intro t k w v dY fS _ _ h aI
  induction dY with
  |zero=>exact absurd h (rD _)
  |succ dY=>exact⟨w,v,(Q.lend (Q.DT aI)).trans (by rw[show([]:List Nat).reverse.map cY=[]from rfl,vR];rfl)⟩
 |cons i av ih=>
  intro t k w v dY fS g cA h aI
  induction dY with
  |zero=>exact absurd h (rD _)
  |succ dY=>
   have aj:=cA i jH
   have cM:(xs++av.reverse.map cY).length<60:=by
    rw[gO,fD,EX]
    exact dg (uA (aI▸d5 (jV _) (uD ..)) _) bE
   refine(aP (.int ((0:Int)+(fS:Nat))) v t i (xs++av.reverse.map cY) k (λJ=>gP body gr (.eo 0 (aC:Nat)) K dY (fS+1) J) g aj cM).elim λfU bJ=>?_
   refine(ih (f t i) (k+c) (.int ((0:Int)+(fS:Nat))) fU dY (fS+1) (ow t i g aj) (λj aW=>cA j (i9 _ aW)) (zY h) ((EO fS av.length).trans aI)).elim λig e=>e.elim λOl e=>⟨ig,Ol,?_⟩
   rw[List.reverse_cons,qd,<-nM]
   refine(Q.L3 (Q.Nt (aI▸ER (BS _)))).trans ((eZ (nC ..) _).trans (bJ.trans ?_))
   rw[bD,e,List.length_cons,Nat.mul_succ,tG (c*av.length) c,rE]
   rfl
noncomputable def Np (N:fy) (c:Int) (a:Nat) (w v:I):aL:=[(("work":Str),.ref (N.f .work)),(("code":Str),.int c),(("state":Str),.ref (N.f .state)),(("anchor":Str),.ref (N.f .cR)),(("at":Str),.int (a:Nat)),(("zone":Str),.ref (N.f .cR)),(("turn":Str),w),(("i":Str),v)]
noncomputable def T.l8 (t:T) (i:Nat):T:=t.go i (0 -(t.P i -t.P t.cI))
section
variable {N:fy} {G:bl} {B:fF}
theorem T.cG.go {t:T} (F:t.cG m) (i) (d):(t.go i d).cG m:=
 ⟨by simp[T.go,F.now],by simp[T.go,F.cF],by simp[T.go,F.cD],by simp[T.go,F.bf],F.ia⟩
theorem T.cG.dw {t:T} (F:t.cG m) (l):(t.dw l).cG m:=⟨F.now,F.cF,F.cD,F.bf,F.ia⟩
theorem t6 (aC) (h:aC<1000):k8 (aC:Nat)=true:=(LC _).mpr ⟨by omega,by omega⟩
theorem sS (aC) (h:aC<1000) (C):jP (.eo 0 (aC:Nat)) C=some ((),C):=by
 have iI:∀a b,jP (.eo a b)=if k8 a&&k8 b then ai ()else no:=λU U=>rfl
 rw[iI,t6 aC h,show k8 0=true from rfl,Bool.and_self,bT rfl];rfl
theorem qy (p) (aC) (h:aC<1000) (C):jk p "range" [.int (aC:Nat)] C=some (.eo 0 (aC:Nat),C):=by
 have iI:∀b,jk p "range" [.int b]=if k8 b then ai (.eo 0 b)else no:=λU=>rfl
 rw[iI,t6 aC h,bT rfl];rfl
theorem afI (Z:c4 N (k::p)) (F:B.t.cG m) {av:List Nat} (aR:B.t.told=xs++av.reverse.map cY) (aP:xs.length+av.length<60) (aj:∀i∈av,i<m) (cj:B.t.cI<m) (aI:B.loop=(av.length:Nat)) (c:Int):
  aJ (n+6) p 634 [.ref (N.f .work),.int c] ⟨aq N G B,k⟩=some (.none,⟨aq N G {B with loop:=1,t:=(av.foldl T.l8 B.t).dw xs},k+1⟩):=by
 refine iu λaH ez=>?_
 have cA:av.length<1000:=fV (dg (uD ..) aP) (by decide)
 have aeh:∀(u v:I) (t:T) (i:Nat) (jG:List Int) (nZ:Nat) (au:aL->aD I),(t.cG m/\t.cI=B.t.cI)->i<m->jG.length<60->∃fU,c5 (aJ (n+5)) 95 (aA 90).sc (k::p) G5 (Np N c B.t.cI u v) au ⟨aq N G {B with loop:=1,t:=t.dw (jG++[cY i])},nZ⟩=
   au (Np N c B.t.cI u fU) ⟨aq N G {B with loop:=1,t:=(t.dw jG).l8 i},nZ+4⟩:=λu v t i jG nZ au g aj cM=>by
  obtain⟨F,Sl⟩:=g
  refine⟨.int (i:Nat),Q.iF (Q.agN ..) ?_⟩
  unfold T.l8 T.P
  rw[<-Sl]
  have cj:t.cI<m:=Sl▸cj
  exact Q.bx m9<|Q.bx gC<|Q.bx jU<|Q.bx (Q.c_ rfl (jQ (xs:=jG) (v:=i) (Z.sub _) rfl (mw cM)))<|Q.bx (Q.c_ rfl (mR (Z.sub _) (F.ak aj) F.dM))<|Q.bx iN<|Q.bx (jq (F.ak aj) F.dM)<|Q.bx iN<|Q.bx (jq (F.ak cj) F.dM)<|Q.bx (q3 _ _)<|Q.bx (pY (Z.sub _) (F.ak aj) F.dM F.oM)<|Q.fin
 obtain⟨ig,fU,h⟩:=Vj (N:=N) (G:=G) (R:=Np N c B.t.cI) (af:=λt=>{B with loop:=1,t:=t}) (f:=T.l8) (cZ:=λt=>t.cG m/\t.cI=B.t.cI) (m:=m) (c:=4) (aC:=av.length) (xs:=xs)
  (body:=λJ au=>c5 (aJ (n+5)) 95 (aA 90).sc (k::p) G5 J au) (gr:=λv J au=>asg (aJ (n+5)) 95 (aA 90).sc (k::p) 3 MA v J au) (K:=Mm (aJ (n+5)) (k::p))
  (λw v u au=>ahJ ..) aeh (λt i g aj=>⟨g.1.go _ _,g.2⟩) (λt i l=>rfl) aP av B.t 3 .undef .undef 1000 0 ⟨F,rfl⟩ aj cA (mH _)
 refine ez ?_
 rw[<-aR]at h
 refine ko Z rfl (Q.ZC _ _ _ _) ?_
 have aQ:∀{p C},jk p "range" [.int B.loop] C=some (.eo 0 (av.length:Nat),C):=λ{p C}=>aI▸qy p av.length cA C
 exact Q.B cR<|Q.B (GV (Z.sub _) (F.ak cj) F.dM)<|Q.B nK<|Q.B uz<|Q.B (Q.c_ rfl nE)<|Q.B I4<|Q.B (Q.c_ rfl (GW (Z.sub _)))<|Q.B (Q.fR aQ)<|Q.B (Q.nj (sS _ cA _) (h.trans (eZ (Q.ahk ..) _)))<|rfl
end
def T.lZ (t:T):Prop:=∀b i,-1000<=d9 b (t.cF.getD i (0,0))/\d9 b (t.cF.getD i (0,0))<=1000
noncomputable def T.nX (w jr:Int) (t:T) (i:Nat):T:=t.go i ((if w=0 then t.O i -t.O t.cT else ic (t.O i -t.O t.cT) jr w) -(t.P i -t.P t.cT))
noncomputable def T.ly (d:Int) (t:T) (i:Nat):T:=t.go i d
noncomputable def alz (N:fy) (c:Int) (a b:Nat) (w jr:Int) (u:I) (v:I×I):aL:=[("work",.ref (N.f .work)),("code",.int c),("state",.ref (N.f .state)),("zone",.ref (N.f .cR)),("end",.ref (N.f .cR)),("first",.int a),("last",.int b),("whole",.int w),("now",.int jr),("own",.ref (N.f .cR)),("turn",u),("i",v.1),("distance",v.2)]
noncomputable def alA (N:fy) (c:Int) (a:Nat) (s:I) (u:I) (v:Unit):aL:=[("work",.ref (N.f .work)),("code",.int c),("zone",.ref (N.f .cR)),("at",.int a),("step",s),("own",.ref (N.f .cR)),("turn",u)]
noncomputable def alB (N:fy) (c:Int) (s:I) (u:I) (v:Unit):aL:=[("work",.ref (N.f .work)),("code",.int c),("step",s),("own",.ref (N.f .cR)),("turn",u)]
theorem K0 {b9:Type} {K:aL->aD I} {R:I->b9->aL} {af:T->fF} {cZ:T->Prop} {N:fy} {G:bl} {av:List Nat} {t:T} {k:Nat} {w:I} {v:b9}
  (nC:∀w v u au,asg L e sc p 3 xC u (R w v) au=au (R u v))
  (aP:∀u v t i jG k au,cZ t->i<m->jG.length<60->∃fU,c5 L e sc p b (R u v) au ⟨aq N G (af (t.dw (jG++[cY i]))),k⟩=au (R u fU) ⟨aq N G (af (f (t.dw jG) i)),k+c⟩)
  (ow:∀t i,cZ t->i<m->cZ (f t i)) (bD:∀t i l,f (t.dw l) i=(f t i).dw l) (cE:∀w v C,K (R w v) C=some (.none,C)) (bE:xs.length+av.length<60) (g:cZ t) (cA:∀i∈av,i<m) (aR:t.told=xs++av.reverse.map cY):
  jL L p e sc b xC (.eo 0 av.length) K (R w v) ⟨aq N G (af t),k⟩=some (.none,⟨aq N G (af ((av.foldl f t).dw xs)),k+c*av.length⟩):=by
 have hz:av.length<1000:=fV (dg (uD ..) bE) (by decide)
 obtain⟨ig,fU,h⟩:=Vj nC aP ow bD bE av t k w v 1000 0 g cA hz (mH _)
 rw[<-aR]at h
 exact Q.nj (sS _ hz _) (h.trans (cE _ _ _))
theorem Nv {l:Int} {aC:Nat} {p:ay} {C:bL} (h:l=aC) (d8:aC<60):jk p "range" [.int l] C=some (.eo 0 aC,C):=h▸qy p aC (fV d8 (by decide)) C
theorem Me {xs:List Int} {av:List Nat} (h:xs.length+av.length<60):av.length<60:=dg (uD ..) h
section
variable {N:fy} {G:bl} {B:fF}
theorem S5 {b:Bool} {d:Int} (Z:c4 N (k::p)) (bE:B.t.cL=b) (aj:i<B.t.now.length) (aP:B.t.now.length<=100) (bY:B.t.cD.length=B.t.now.length):
  aJ (n+3) p 402 [.ref (N.f .state),.ref (N.f .cR),.int i,rN b d,.bool true] ⟨aq N G B,k⟩=some (.none,⟨aq N G {B with t:=B.t.go i d},k+1⟩):=agk Z bE aj aP bY d
theorem agm (Z:c4 N (k::p)) (F:B.t.cG m) {av:List Nat} {d:Int} (aR:B.t.told=xs++av.reverse.map cY++[d]) (aP:xs.length+av.length<60) (aj:∀i∈av,i<m) (aI:B.loop=av.length) (c):
  aJ (n+6) p 891 [.ref (N.f .work),.int c] ⟨aq N G B,k⟩=some (.none,⟨aq N G {B with loop:=1,t:=(av.foldl (T.ly d) B.t).dw xs},k+1⟩):=by
 have eF:=λbq=>K0 (G:=G) (L:=aJ (n+5)) (K:=Mq (aJ (n+5)) (k::p)) (R:=alB N c (rN B.t.cL d)) (af:=λt=>{B with loop:=1,t:=t}) (f:=T.ly d) (cZ:=λt=>t.cG m/\t.cL=B.t.cL) (m:=m) (c:=2) (xs:=xs) (k:=bq) (w:=.undef) (v:=()) (t:=B.t.dw (xs++av.reverse.map cY))
  (λw v u au=>ahN ..) (λu v t i jG nZ au g aj cM=>⟨(),Q.iF (Q.agQ ..) (by
   have F:=g.1
   exact Q.bx cR<|Q.bx gC<|Q.bx jU<|Q.bx (Q.c_ rfl (jQ (xs:=jG) (v:=i) (Z.sub _) rfl (mw cM)))<|Q.bx (S5 (Z.sub _) g.2 (F.ak aj) F.dM F.oM)<|Q.fin)⟩) (λt i g aj=>⟨g.1.go _ _,g.2⟩) (λt i l=>rfl) (λw v C=>eZ (Q.aho ..) C) aP ⟨⟨F.now,F.cF,F.cD,F.bf,F.ia⟩,rfl⟩ aj rfl
 have e:((av.foldl (T.ly d) (B.t.dw (xs++av.reverse.map cY))).dw xs)=(av.foldl (T.ly d) B.t).dw xs:=by
  generalize xs++av.reverse.map cY=l
  clear aR aP aj aI eF
  have:∀t:T,(av.foldl (T.ly d) (t.dw l)).dw xs=(av.foldl (T.ly d) t).dw xs:=by
   induction av with
   |nil=>intro t;rfl
   |cons i fX ih=>intro t;exact ih (t.ly d i)
  exact this _
 rw[<-e]
 refine ko Z rfl (Q.ZK _ _ _ _) ?_
 exact Q.B cR<|Q.B gC<|Q.B jU<|Q.B (Q.c_ rfl (jQ (Z.sub _) aR (show(xs++av.reverse.map cY).length<64 by simp;omega)))<|Q.B (afJ _)<|Q.B nK<|Q.B cR<|Q.B IY<|Q.B (Q.c_ rfl nE)<|Q.B I4<|Q.B (Q.c_ rfl (GW (Z.sub _)))<|Q.B (Q.fR (Nv aI (Me aP)))<|Q.B (eF _)<|rfl
theorem agh (Z:c4 N (k::p)) (F:B.t.cG m) c {f:Bool} (aN:decide (c.fmod 2=1)=f) (az:B.t.cT<m) (aE:B.t.dO<m):aJ (n+5) p 849 [.ref (N.f .work),.int c] ⟨aq N G B,k⟩=
  some (.tup [.ref (N.f .cR),.int (if f then B.t.cT else B.t.dO:Nat),rN B.t.cL (B.t.P (if f then B.t.cT else B.t.dO) -B.t.O (if f then B.t.cT else B.t.dO))],⟨aq N G B,k+1⟩):=by
 refine jM rfl (Q.ZH _ _ _ _) ?_
 rcases f with _|_
 .exact Q.B cR<|Q.B nK<|Q.B kK<|Q.B (Q.iz aN)<|Q.B uz<|Q.B (Q.c_ rfl nE)<|Q.B m9<|Q.B kK<|Q.B (Q.iz aN)<|Q.B W3<|Q.B (Q.c_ rfl (mR (Z.sub _) (F.ak aE) F.dM))<|Q.B iN<|Q.B (jq (F.ak aE) F.dM)<|Q.B qb<|Q.B (pV (F.gH aE) F.k_)<|Q.B (q3 _ _)<|Q.B (LU _)<|rfl
 .exact Q.B cR<|Q.B nK<|Q.B kK<|Q.B (Q.iz aN)<|Q.B uy<|Q.B (Q.c_ rfl nE)<|Q.B m9<|Q.B kK<|Q.B (Q.iz aN)<|Q.B W2<|Q.B (Q.c_ rfl (mR (Z.sub _) (F.ak az) F.dM))<|Q.B iN<|Q.B (jq (F.ak az) F.dM)<|Q.B qb<|Q.B (pV (F.gH az) F.k_)<|Q.B (q3 _ _)<|Q.B (LU _)<|rfl
theorem agl (Z:c4 N (k::p)) (F:B.t.cG m) {av:List Nat} (aR:B.t.told=xs++av.reverse.map cY) (aP:xs.length+av.length<60) (aj:∀i∈av,i<m) (aI:B.loop=av.length) c (aN:decide (c.fmod 2=1)=f) (az:B.t.cT<m) (aE:B.t.dO<m):
  aJ (n+6) p 856 [.ref (N.f .work),.int c] ⟨aq N G B,k⟩=some (.none,⟨aq N G {B with loop:=1,t:=(av.foldl (T.ly (B.t.P (if f then B.t.cT else B.t.dO) -B.t.O (if f then B.t.cT else B.t.dO))) B.t).dw xs},k+1⟩):=by
 have aQ:=λr=>agh (n:=n) (G:=G) (Z.sub r) F c aN az aE
 refine ko Z rfl (Q.ZI _ _ _ _) ?_
 generalize hd:B.t.P (if f then B.t.cT else B.t.dO) -B.t.O (if f then B.t.cT else B.t.dO)=d at aQ ⊢
 generalize (if f then B.t.cT else B.t.dO)=a at aQ
 have eF:=λbq=>K0 (G:=G) (L:=aJ (n+5)) (K:=Mp (aJ (n+5)) (k::p)) (R:=alA N c a (rN B.t.cL d)) (af:=λt=>{B with loop:=1,t:=t}) (f:=T.ly d) (cZ:=λt=>t.cG m/\t.cL=B.t.cL) (m:=m) (c:=2) (xs:=xs) (k:=bq) (w:=.undef) (v:=()) (t:=B.t)
  (λw v u au=>ahM ..) (λu v t i jG nZ au g aj cM=>⟨(),Q.iF (Q.agP ..) (by
   have F:=g.1
   exact Q.bx cR<|Q.bx gC<|Q.bx jU<|Q.bx (Q.c_ rfl (jQ (xs:=jG) (v:=i) (Z.sub _) rfl (mw cM)))<|Q.bx (S5 (Z.sub _) g.2 (F.ak aj) F.dM F.oM)<|Q.fin)⟩) (λt i g aj=>⟨g.1.go _ _,g.2⟩) (λt i l=>rfl) (λw v C=>eZ (Q.ahn ..) C) aP ⟨F,rfl⟩ aj aR
 exact Q.B (aQ _)<|Q.B nK<|Q.B cR<|Q.B IY<|Q.B (Q.c_ rfl nE)<|Q.B I4<|Q.B (Q.c_ rfl (GW (Z.sub _)))<|Q.B (Q.fR (Nv aI (Me aP)))<|Q.B (eF _)<|rfl
theorem af6 {a b c:Int} (h:mV a b=true) (cj:c≠0) (az:-500000000<c) (aE:c<500000000):aJ (n+1) p 290 [.int a,.int b,.int c] C=some (.int (ic a b c),⟨C.h,C.k+1⟩):=AV a b c h cj az aE
theorem afW (Z:c4 N (k::p)) (F:B.t.cG m) (cO:B.t.lZ) {av:List Nat} (aR:B.t.told=xs++av.reverse.map cY) (aP:xs.length+av.length<60) (aj:∀i∈av,i<m) (aI:B.loop=av.length) c (az:B.t.cT<m) (aE:B.t.dO<m):
  aJ (n+6) p 641 [.ref (N.f .work),.int c] ⟨aq N G B,k⟩=some (.none,⟨aq N G {B with loop:=1,t:=(av.foldl (T.nX (B.t.O B.t.dO -B.t.O B.t.cT) (B.t.P B.t.dO -B.t.P B.t.cT)) B.t).dw xs},k+1⟩):=by
 have bd:∀i,-1000<=B.t.O i/\B.t.O i<=1000:=cO B.t.cL
 refine ko Z rfl (Q.ZD _ _ _ _) ?_
 refine Q.B cR<|Q.B nK<|Q.B uy<|Q.B (Q.c_ rfl nE)<|Q.B nK<|Q.B uz<|Q.B (Q.c_ rfl nE)<|Q.B m9<|Q.B W2<|Q.B (Q.c_ rfl (mR (Z.sub _) (F.ak az) F.dM))<|Q.B m9<|Q.B W3<|Q.B (Q.c_ rfl (mR (Z.sub _) (F.ak aE) F.dM))<|Q.B qb<|Q.B (pV (F.gH aE) F.k_)<|Q.B qb<|Q.B (pV (F.gH az) F.k_)<|Q.B (AU _ _)<|Q.B iN<|Q.B (jq (F.ak aE) F.dM)<|Q.B iN<|Q.B (jq (F.ak az) F.dM)<|Q.B (q3 _ _)<|Q.B nK<|Q.B IY<|Q.B (Q.c_ rfl nE)<|Q.B I4<|Q.B (Q.c_ rfl (GW (Z.sub _)))<|Q.B (Q.fR (Nv aI (Me aP)))<|?_
 have nA:-3000<B.t.O B.t.dO -B.t.O B.t.cT/\B.t.O B.t.dO -B.t.O B.t.cT<3000:=by have:=bd B.t.cT;have:=bd B.t.dO;omega
 have aiq:∀i x,mV (B.t.O i -B.t.O B.t.cT) x=true:=λi x=>sY (by have:=bd i;have:=bd B.t.cT;omega) (by have:=bd i;have:=bd B.t.cT;omega)
 have eF:∀{W sC:Int} (eL:-3000<W/\W<3000) bq,_:=λ{W sC} eL bq=>K0 (G:=G) (L:=aJ (n+5)) (K:=Mn (aJ (n+5)) (k::p)) (R:=alz N c B.t.cT B.t.dO W sC) (af:=λt=>{B with loop:=1,t:=t}) (f:=T.nX W sC) (cZ:=λt=>t.cG m/\t.cT=B.t.cT/\t.cF=B.t.cF/\t.cL=B.t.cL) (m:=m) (c:=if W=0 then 5 else 6) (xs:=xs) (k:=bq) (w:=.undef) (v:=(.undef,.undef)) (t:=B.t)
  (λw v u au=>ahK ..) (λu v t i jG nZ au g aj cM=>by
   obtain⟨iV,GJ,aeT,aeg⟩:=g
   have Gw:t.cT<m:=GJ▸az
   have f6:∀i,t.O i=B.t.O i:=λi=>by unfold T.O;rw[aeT,aeg]
   unfold T.nX
   by_cases hz:W=0
   .refine⟨(.int (i:Nat),.int (t.O i -t.O t.cT)),Q.iF (Q.Tj ..) ?_⟩
    rw[bT hz,bT hz,<-GJ]
    exact Q.bx m9<|Q.bx gC<|Q.bx jU<|Q.bx (Q.c_ rfl (jQ (xs:=jG) (v:=i) (Z.sub _) rfl (mw cM)))<|Q.bx (Q.c_ rfl (mR (Z.sub _) (iV.ak aj) iV.dM))<|Q.bx qb<|Q.bx (pV (iV.gH aj) iV.k_)<|Q.bx qb<|Q.bx (pV (iV.gH Gw) iV.k_)<|Q.bx (AU _ _)<|Q.bx (Q.ua hz)<|Q.bx iN<|Q.bx (jq (iV.ak aj) iV.dM)<|Q.bx iN<|Q.bx (jq (iV.ak Gw) iV.dM)<|Q.bx (q3 _ _)<|Q.bx (pY (Z.sub _) (iV.ak aj) iV.dM iV.oM)<|Q.fin
   .refine⟨(.int (i:Nat),.int (ic (t.O i -t.O t.cT) sC W)),Q.iF (Q.Tj ..) ?_⟩
    have air:mV (t.O i -t.O t.cT) sC=true:=by rw[f6,f6,GJ];exact aiq i sC
    rw[bX hz,bX hz,<-GJ]
    exact Q.bx m9<|Q.bx gC<|Q.bx jU<|Q.bx (Q.c_ rfl (jQ (xs:=jG) (v:=i) (Z.sub _) rfl (mw cM)))<|Q.bx (Q.c_ rfl (mR (Z.sub _) (iV.ak aj) iV.dM))<|Q.bx qb<|Q.bx (pV (iV.gH aj) iV.k_)<|Q.bx qb<|Q.bx (pV (iV.gH Gw) iV.k_)<|Q.bx (AU _ _)<|Q.bx (Q.neT hz)<|Q.bx (af6 air hz (lX (by decide) eL.1) (lX eL.2 (by decide)))<|Q.bx iN<|Q.bx (jq (iV.ak aj) iV.dM)<|Q.bx iN<|Q.bx (jq (iV.ak Gw) iV.dM)<|Q.bx (q3 _ _)<|Q.bx (pY (Z.sub _) (iV.ak aj) iV.dM iV.oM)<|Q.fin)
  (λt i g aj=>⟨g.1.go _ _,g.2⟩) (λt i l=>rfl) (λw v C=>eZ (Q.ahl ..) C) aP ⟨F,rfl,rfl,rfl⟩ aj aR
 exact Q.B (eF nA _) rfl
end
section
variable {N:fy} {G:bl} {B:fF} {i m:Nat}
theorem akZ {t:T}:d9 t.cL (t.cF.getD i (0,0)) -d9 t.cL (0,0)=t.O i:=by cases h:t.cL<;>simp[d9,T.O,h]
theorem afU (Z:c4 N (k::p)) (F:B.t.cG m) (aR:B.t.told=xs++[(i:Int)]) (aP:xs.length<60) (aj:i<m) (c) (aN:decide (c.fmod 2=1)=f):
  aJ (n+6) p 438 [.ref (N.f .work),.int c] ⟨aq N G B,k⟩=some (.none,⟨aq N G {B with t:=B.t.dw (xs++[if f then B.t.O i else B.t.P i])},k+1⟩):=by
 refine ko Z rfl (Q.Zo _ _ _ _) ?_
 refine Q.B nK<|Q.B cR<|Q.B IY<|Q.B (Q.c_ rfl nE)<|Q.B m9<|Q.B gC<|Q.B jU<|Q.B (Q.c_ rfl (jQ (Z.sub _) aR (mw aP)))<|Q.B (Q.c_ rfl (mR (Z.sub _) (F.ak aj) F.dM))<|Q.B kK<|?_
 rcases f with _|_
 .exact Q.B (Q.iz aN)<|Q.B gC<|Q.B I3<|Q.B cR<|Q.B (GY (Z.sub _) (F.ak aj) F.dM)<|Q.B (Q.c_ rfl (LS (Z.sub _) (mw aP)))<|rfl
 .rw[<-akZ]
  exact Q.B (Q.iz aN)<|Q.B gC<|Q.B I3<|Q.B cR<|Q.B qb<|Q.B (pV (F.gH aj) F.k_)<|Q.B (AU _ (0,0))<|Q.B (Q.c_ rfl (LS (Z.sub _) (mw aP)))<|rfl
theorem afZ (Z:c4 N (k::p)) (F:B.t.cG m) {j:Nat} (aR:B.t.told=xs++[(j:Int),i]) (aP:xs.length<60) (aj:i<m) (aW:j<m) (c) (aN:decide (c.fmod 2=1)=true):
  aJ (n+6) p 452 [.ref (N.f .work),.int c] ⟨aq N G B,k⟩=some (.none,⟨aq N G {B with t:=B.t.dw (xs++[B.t.P j -B.t.P i])},k+1⟩):=by
 refine ko Z rfl (Q.Zp _ _ _ _) ?_
 exact Q.B cR<|Q.B gC<|Q.B jU<|Q.B (Q.c_ rfl (jQ (Z.sub _) (El aR) (A0 aP)))<|Q.B gC<|Q.B jU<|Q.B (Q.c_ rfl (jQ (Z.sub _) rfl (mw aP)))<|Q.B nK<|Q.B uy<|Q.B (Q.c_ rfl nE)<|Q.B nK<|Q.B uz<|Q.B (Q.c_ rfl nE)<|Q.B m9<|Q.B (Q.c_ rfl (mR (Z.sub _) (F.ak aW) F.dM))<|Q.B m9<|Q.B (Q.c_ rfl (mR (Z.sub _) (F.ak aj) F.dM))<|Q.B kK<|Q.B (Q.iz aN)<|Q.B gC<|Q.B I3<|Q.B iN<|Q.B (jq (F.ak aW) F.dM)<|Q.B iN<|Q.B (jq (F.ak aj) F.dM)<|Q.B (q3 _ _)<|Q.B (Q.c_ rfl (LS (Z.sub _) (mw aP)))<|rfl
theorem agg (Z:c4 N (k::p)) (aj:i<B.t.bf.length) (aP:B.t.bf.length<=100):aJ (n+2) p 1220 [.ref (N.f .work),.int i,.int v] ⟨aq N G B,k⟩=some (.none,⟨aq N G {B with t:={B.t with bf:=B.t.bf.set i v}},k+1⟩):=age Z aj aP v
theorem ago (Z:c4 N (k::p)) (F:B.t.cG m) {j:Nat} (aR:B.t.told=xs++[(j:Int),v]) (aP:xs.length<60) (aW:j<3) (c):
  aJ (n+6) p 793 [.ref (N.f .work),.int c] ⟨aq N G B,k⟩=some (.none,⟨aq N G {B with t:={B.t.dw xs with bf:=B.t.bf.set j v}},k+1⟩):=by
 refine ko Z rfl (Q.ZF _ _ _ _) ?_
 exact Q.B gC<|Q.B jU<|Q.B (Q.c_ rfl (jQ (Z.sub _) (El aR) (A0 aP)))<|Q.B gC<|Q.B jU<|Q.B (Q.c_ rfl (jQ (Z.sub _) rfl (mw aP)))<|Q.B ao0<|Q.B (Q.c_ rfl (agg (Z.sub _) (F.pQ aW) F.yj))<|rfl
noncomputable def T.point (t:T) (j:Nat) (i:Nat):T:=if j=0 then{t with cI:=i}else if j=1 then{t with cT:=i}else{t with dO:=i}
theorem af9 (Z:c4 N (k::p)) (aR:B.t.told=xs++[(i:Int)]) (aP:xs.length<60) {j:Nat} (aW:j<3):
  aJ (n+6) p 1022 [.ref (N.f .work),.int (16+j)] ⟨aq N G B,k⟩=some (.none,⟨aq N G {B with t:=(B.t.dw xs).point j i},k+1⟩):=by
 refine ko Z rfl (Q.YA _ _ _ _) ?_
 match j,aW with
 |0,_=>exact Q.B gC<|Q.B jU<|Q.B (Q.c_ rfl (jQ (Z.sub _) aR (mw aP)))<|Q.B (Q.eqT rfl)<|Q.B cR<|Q.B zT<|rfl
 |1,_=>exact Q.B gC<|Q.B jU<|Q.B (Q.c_ rfl (jQ (Z.sub _) aR (mw aP)))<|Q.B (Q.eN (by decide))<|Q.B (Q.eqT rfl)<|Q.B cR<|Q.B xK<|rfl
 |2,_=>exact Q.B gC<|Q.B jU<|Q.B (Q.c_ rfl (jQ (Z.sub _) aR (mw aP)))<|Q.B (Q.eN (by decide))<|Q.B (Q.eN (by decide))<|Q.B cR<|Q.B OF<|rfl
theorem afY (Z:c4 N (k::p)) {l:Nat} (aR:B.t.told=xs++[(l:Int)]) (aP:xs.length<60) (aI:l<100) (c):
  aJ (n+6) p 1036 [.ref (N.f .work),.int c] ⟨aq N G B,k⟩=some (.none,⟨aq N G {B with loop:=l,t:=B.t.dw xs},k+1⟩):=by
 refine ko Z rfl (Q.YB _ _ _ _) ?_
 exact Q.B gC<|Q.B jU<|Q.B (Q.c_ rfl (jQ (Z.sub _) aR (mw aP)))<|Q.B (Q.kQ (Int.not_lt.mpr (BX l)))<|Q.B (Q.j_ (lX (Int.ofNat_lt.mpr aI) (by decide)))<|Q.B cR<|Q.B Xb<|rfl
theorem SS (c) (aN:decide (c.fmod 2=1)=f):aJ (n+1) p 959 [.int c] C=some (lO (!f),⟨C.h,C.k+1⟩):=by
 refine jM rfl (Q.ZV _ _ _) ?_
 rcases f with _|_<;>exact Q.B kK<|Q.B (Q.iz aN)<|rfl
noncomputable def tZ (a b c:I) (B:fF) (N:fy):List (Str×I):=[("freedom",a),("projection",b),("dual",c),("rp0",.int B.t.cI),("rp1",.int B.t.cT),("rp2",.int B.t.dO),("zp0",.int 1),("zp1",.int 1),("zp2",.int 1),("loop",.int B.loop),("minimum",.int 64),("cut_in",.int 68),("single_cut_in",.int 0),("single_width",.int 0),("delta_base",.int 9),("delta_shift",.int 3),("auto_flip",.bool true),("rounding",.ref B.gc)]
noncomputable def W (N:fy) (G:bl) (B:fF) (l:List (Str×I)):bl:=(aq N G B).set (N.f .ru) (.attrs l)
theorem XN {i j:oj} (h:i≠j) (aj:N.g (N.f i)=some i) (aW:N.g (N.f j)=some j):N.f i≠N.f j:=λe=>h (by rw[e,aW]at aj;exact(iH aj).symm)
theorem Ph:W N G B l (N.f .ru)=some (.attrs l):=by unfold W bl.set;rw[bT rfl]
theorem Fc {l:List (Str×I)} {i:oj} (aj:i≠.ru) (h:cont N B i=some o):W N G B l (N.f i)=some o:=by unfold W bl.set;rw[bX (XN aj (Lc h) (Lc (B:=B) rfl)),g7 h]
theorem xy {h:bl} {r:ay}:(h.set r a).set r b=h.set r b:=by
 funext x;unfold bl.set;split<;>rfl
theorem JO {l:List (Str×I)} {x:Str} (aY:pO x=true) (aI:decide (l.length<100)=true):lT (.ref (N.f .state)) x u ⟨W N G B l,k⟩=some ((),⟨W N G B (g9 l x u),k⟩):=by
 rw[Io (Fc (i:=.state) (λz=>nomatch z) rfl) Ph aY rfl aI]
 unfold W;rw[xy]
theorem afL (Z:c4 N (k::p)) (c) (aN:decide (c.fmod 2=1)=f) (aE:c<2):
  aJ (n+6) p 966 [.ref (N.f .work),.int c] ⟨aq N G B,k⟩=some (.none,⟨aq N G {B with t:={B.t with cL:=!f}},k+1⟩):=by
 refine ko Z rfl (Q.ZW _ _ _ _) ?_
 have zO:aq N G B=W N G B (tZ (lO B.t.cL) (lO B.t.cL) (lO B.t.cL) B N):=(za rfl λU U=>rfl).symm
 have aot:∀{a b d u au},Q.j3 (lT (.ref (N.f .state)) (Str.ofString "projection") u) ⟨W N G B (tZ a b d B N),au⟩=some (.none,⟨W N G B (tZ a u d B N),au⟩):=Q.gy (JO rfl rfl)
 have WV:∀{a b d u au},Q.j3 (lT (.ref (N.f .state)) (Str.ofString "dual") u) ⟨W N G B (tZ a b d B N),au⟩=some (.none,⟨W N G B (tZ a b u B N),au⟩):=Q.gy (JO rfl rfl)
 have aou:∀{a b d u au},Q.j3 (lT (.ref (N.f .state)) (Str.ofString "freedom") u) ⟨W N G B (tZ a b d B N),au⟩=some (.none,⟨W N G B (tZ u b d B N),au⟩):=Q.gy (JO rfl rfl)
 have gx:∀{a x d au},fB (.ref (N.f .state)) (Str.ofString "projection") ⟨W N G B (tZ a (lO x) d B N),au⟩=some (lO x,⟨W N G B (tZ a (lO x) d B N),au⟩):=mP (Fc (λz=>nomatch z) rfl) Ph rfl rfl rfl rfl
 have iX:∀{l au},fB (.ref (N.f .work)) (Str.ofString "state") ⟨W N G B l,au⟩=some (.ref (N.f .state),⟨W N G B l,au⟩):=mP (Fc (i:=.work) (λz=>nomatch z) rfl) (Fc (i:=.ux) (λz=>nomatch z) rfl) rfl rfl rfl rfl
 have fin:W N G B (tZ (lO (!f)) (lO (!f)) (lO (!f)) B N)=aq N G {B with t:={B.t with cL:=!f}}:=za (i:=.ru) rfl (An B.t.cI B.t.cT B.t.dO B.loop B.gc (!f))
 rw[<-fin,zO]
 exact Q.B iX<|Q.B (Q.j_ (lX aE (by decide)))<|Q.B (SS c aN)<|Q.B aot<|Q.B gx<|Q.B WV<|Q.B (Q.j_ aE)<|Q.B (SS c aN)<|Q.B aou<|rfl
end
section
variable {N:fy} {G:bl} {B:fF}
theorem qk (Z:c4 N q) (j):N.g (j::q)=none:=by
 cases e:N.g (j::q)with
 |none=>rfl
 |some i=>exact absurd (uC j q) (by rw[N.oY _ _ e];exact Z i)
theorem Ur (h:N.g d=none):(aq N G B).set d o=aq N (G.set d o) B:=by
 funext r
 unfold bl.set aq
 by_cases e:r=d
 .subst e;rw[bT rfl,h];dsimp only;rw[bT rfl]
 .rw[bX e]
  cases N.g r with
  |none=>dsimp only;rw[bX e]
  |some i=>dsimp only;rw[bX e]
theorem GS {r:ay} (h:C.h r=some (.cB l)) (bJ:l.lookup c=some v):item (.ref r) (.int c) C=some (v,C):=by
 show Y (obj r) (AR c) C=_
 simp only[Y,obj,AR,h,bJ,gU,ai]
theorem vd {r:ay} (h:C.h r=some (.jn l)) (bJ:l.lookup c=some v):item (.ref r) (.str c) C=some (v,C):=by
 show Y (obj r) (sF _) C=_
 simp only[Y,obj,sF,h,bJ,gU,ai]
theorem UM {r:ay} (h:C.h r=some (.jn l)) (bJ:l.lookup c=some v):dX .NotIn (.str c) (.ref r) C=some (false,C):=by
 show Y (obj r) _ C=_
 simp only[Y,obj,sF,h,bJ,ai,Option.isSome_some,Ji]
theorem UJ (Z:c4 N q):new q o ⟨aq N G B,k⟩=some (.ref (k::q),⟨aq N (G.set (k::q) o) B,k+1⟩):=cJ (λg=>some (I.ref (k::q),(⟨g,k+1⟩:bL))) (rZ Z)
theorem NI {r d:ay} (aQ:G r=some (.inst aH d)) (hd:G d=some (.attrs l)) (fc:N.g r=none) (AL:N.g d=none) (z:(pO x&&(q2 aH&&decide (l.length<100)))=true):Q.j3 (lT (.ref r) x u) ⟨aq N G B,k⟩=some (.none,⟨aq N (G.set d (.attrs (g9 l x u))) B,k⟩):=
 have gC:=Bool.and_eq_true_iff.mp (Bool.and_eq_true_iff.mp z).2
 Q.gy ((Io (C:=⟨aq N G B,k⟩) ((lS fc).trans aQ) ((lS AL).trans hd) (Bool.and_eq_true_iff.mp z).1 gC.1 gC.2).trans (cJ (λg=>some ((),(⟨g,k⟩:bL))) (Ur AL)))
theorem afV {r d:ay} (aQ:G r=some (.inst 525 d)) (hd:G d=some (.attrs [])) (fc:N.g r=none) (AL:N.g d=none) (sN:r≠d):
  aJ (n+1) p 515 [.ref r,.int a,.int b,.int c] ⟨aq N G B,k⟩=some (.none,⟨aq N (G.set d (.attrs [(("period":Str),.int a),(("phase":Str),.int b),(("threshold":Str),.int c)])) B,k+1⟩):=
 (Q.qh (h:=aq N G B) (k:=k) rfl (Q.PO (aJ n) (k::p) (.ref r) (.int a) (.int b) (.int c)) (Q.B (NI aQ hd fc AL rfl)<|Q.B (NI ((dP sN).trans aQ) cP fc AL rfl)<|Q.B (NI ((dP sN).trans ((dP sN).trans aQ)) cP fc AL rfl) rfl)).trans (by rw[xy,xy];rfl)
theorem Qv (c8:jc.lookup aH=some ⟨init,sX⟩) (aj:L q init (.ref ((x+1)::q)::aa) ⟨(h.set (x::q) (.attrs [])).set ((x+1)::q) (.inst aH (x::q)),x+2⟩=some (.none,aT)):fz L q (.at aH) aa ⟨h,x⟩=some (.ref ((x+1)::q),aT):=by
 show(match jc.lookup aH with|some c=>_|none=>_:aD I) _=_
 rw[c8]
 exact h9 rfl (h9 rfl (h9 aj rfl))
noncomputable def t3 (a b c:Int):I:=.tup [.int a,.int b,.int c]
noncomputable def vC:List (Str×I):=[(("grid":Str),t3 64 0 32),(("half grid":Str),t3 64 32 32),(("double grid":Str),t3 32 0 16),(("down":Str),t3 64 0 0),(("up":Str),t3 64 0 63),(("off":Str),t3 0 0 0)]
noncomputable def Oq:List (Int×I):=[(24,.str ("grid":Str)),(25,.str ("half grid":Str)),(61,.str ("double grid":Str)),(125,.str ("down":Str)),(124,.str ("up":Str)),(122,.str ("off":Str))]
def dz (q:ay) (G bu:bl):Prop:=∀x,¬q<:+x->bu x=G x
theorem dz.refl (q) (G:bl):dz q G G:=λU U=>rfl
set_option tactic.hygienic true in
theorem dz.set {G bu:bl} (h:dz q G bu) {r:ay} (aQ:q<:+r) (o):dz q G (bu.set r o):=λx bE=>by
 unfold bl.set;split
 .rename_i e;exact absurd (e▸aQ) bE
 .exact h x bE
noncomputable def B4 (G:bl) (q:ay) (a b c:Int):bl:=((((G.set (0::q) (.jn vC)).set (1::q) (.attrs [])).set (2::q) (.inst 525 (1::q))).set (1::q) (.attrs [(("period":Str),.int a),(("phase":Str),.int b),(("threshold":Str),.int c)]))
theorem af7 (Z:c4 N (k::p)) {w:Str} (eL:vC.lookup w=some (t3 a b c)):aJ (n+2) p 536 [.str w] ⟨aq N G B,k⟩=some (.ref (2::k::p),⟨aq N (B4 G (k::p) a b c) B,k+1⟩):=
 Q.qh rfl (Q.PR ..) (Q.B (UJ (o:=.jn vC) Z)<|Q.B (Q.iC (UM ((Ds Z).trans cP) eL))<|Q.B (vd ((Ds Z).trans cP) eL)<|
  Q.B (Qv (sX:=[]) rfl (by
   rw[rZ Z,rZ Z]
   exact afV cP ((dP (λz=>by cases z)).trans cP) (qk Z _) (qk Z _) (λz=>by cases z))) rfl)
theorem aid (c):aq N G {B with t:={B.t with round:=c}}=aq N G B:=by
 funext r;unfold aq;cases N.g r with
 |none=>rfl
 |some i=>dsimp only;rcases i with _|_<;>rfl
theorem agi (Z:c4 N (k::p)) (c) (aN:l6 c):∃bu,aJ (n+6) p 1057 [.ref (N.f .work),.int c] ⟨aq N G B,k⟩=some (.none,⟨aq N bu {B with gc:=2::1::k::p,t:={B.t with round:=c}},k+1⟩)/\
  bu (2::1::k::p)=some (.inst 525 (1::1::k::p))/\bu (1::1::k::p)=some (.attrs [("period",.int (gB c).1),("phase",.int (gB c).2.1),("threshold",.int (gB c).2.2)])/\dz (k::p) G bu:=by
 have aI:=Z.sub
 have key:∀(w:Str),Oq.lookup c=some (.str w)->vC.lookup w=some (t3 (gB c).1 (gB c).2.1 (gB c).2.2)->∃bu,aJ (n+6) p 1057 [.ref (N.f .work),.int c] ⟨aq N G B,k⟩=some (.none,⟨aq N bu {B with gc:=2::1::k::p,t:={B.t with round:=c}},k+1⟩)/\
   bu (2::1::k::p)=some (.inst 525 (1::1::k::p))/\bu (1::1::k::p)=some (.attrs [("period",.int (gB c).1),("phase",.int (gB c).2.1),("threshold",.int (gB c).2.2)])/\dz (k::p) G bu:=λw az aE=>by
  refine⟨B4 (G.set (0::k::p) (.cB Oq)) (1::k::p) (gB c).1 (gB c).2.1 (gB c).2.2,?_,?_,?_,?_⟩
  .exact(Q.qh (h:=aq N G B) (k:=k) rfl (Q.YC (aJ (n+5)) (k::p) (.ref (N.f .work)) (.int c)) (Q.B (UJ (o:=.cB Oq) Z)<|Q.B (GS ((Ds Z).trans cP) az)<|Q.B (af7 (n:=n+3) (aI _) aE)<|Q.B cR<|Q.B (Q.gy (ao1)) rfl)).trans (cJ (λg=>some (I.none,(⟨g,k+1⟩:bL))) (aid (B:={B with gc:=2::1::k::p}) c).symm)
  .unfold B4 bl.set;rw[bX (by simp),bT rfl]
  .unfold B4;exact cP
  .unfold B4
   exact((((((dz.refl _ _).set (uC _ _) _).set ⟨[0,1],rfl⟩ _).set ⟨[1,1],rfl⟩ _).set ⟨[2,1],rfl⟩ _).set ⟨[1,1],rfl⟩ _)
 rcases aN with rfl|rfl|rfl|rfl|rfl|rfl
 .exact key _ rfl rfl
 .exact key _ rfl rfl
 .exact key _ rfl rfl
 .exact key _ rfl rfl
 .exact key _ rfl rfl
 .exact key _ rfl rfl
end
noncomputable def qU (a:Int):Int:=if a=56 then 8 else if a=50 then -48 else 0
theorem RC {K:aL->aD I} (az:∀au,asg L e sc p 3 xC (.int 0) J au=au xU) (aE:∀au,c5 L e sc p b xU au C=au E1 aT) (b8:K E1 aT=D):jL L p e sc b xC (.eo 0 1) K J C=D:=by
 have iI:g8 (.eo 0 1) 0 C=some (some (.int 0),C):=rfl
 have bk:g8 (.eo 0 1) 1 aT=some (none,aT):=rfl
 have f:∀{m i J C},gP (λJ k=>c5 L e sc p b J k) (λv J k=>asg L e sc p 3 xC v J k) (.eo 0 1) K (m+1) i J C=(match g8 (.eo 0 1) i C with
  |some (o,aT)=>(match o with
   |none=>K J
   |some v=>asg L e sc p 3 xC v J λJ=>c5 L e sc p b J λJ=>gP (λJ k=>c5 L e sc p b J k) (λv J k=>asg L e sc p 3 xC v J k) (.eo 0 1) K m (i+1) J) aT
  |none=>none):=rfl
 refine Q.nj (sS 1 (by decide) _) ?_
 rw[show 1000=998+1+1 from rfl,f,iI]
 dsimp only
 rw[az,aE,f,bk]
 exact b8
section
variable {N:fy} {G:bl} {B:fF} {i m:Nat}
theorem SU {a:Int} (aY:a=56\/a=50\/a=79):aJ (n+1) p 814 [.ref (N.f .work),.int a,.int 0] ⟨aq N G B,k⟩=some (.int (qU a),⟨aq N G B,k+1⟩):=by
 have Dn:∀{p C} {x:Int},fk p .Mod (.int x) (.int 16) C=some (.int (x.fmod 16),C):=Q.n4 (by decide)
 have c3:∀{p C},fk p .Pow (.int 2) (.int (6 -3)) C=some (.int 8,C):=rfl
 have j3:∀{p C} {x:Int},fk p .Mult (.int x) (.int 8) C=some (.int (x*8),C):=Q.o_ (sZ (by decide) (by decide))
 refine jM rfl (Q.ZG _ _ _ _ _) ?_
 rcases aY with rfl|rfl|rfl
 .exact Q.B OD<|Q.B wk<|Q.B Dn<|Q.B cR<|Q.B Oz<|Q.B (Q.ua (by decide))<|Q.B Dn<|Q.B (Q.pT (by decide))<|Q.B cR<|Q.B W5<|Q.B c3<|Q.B j3<|rfl
 .exact Q.B OD<|Q.B wk<|Q.B Dn<|Q.B cR<|Q.B Oz<|Q.B (Q.ua (by decide))<|Q.B Dn<|Q.B (Q.nV (by decide))<|Q.B cR<|Q.B W5<|Q.B c3<|Q.B j3<|rfl
 .exact Q.B OD<|Q.B wk<|Q.B Dn<|Q.B cR<|Q.B Oz<|Q.B (Q.neT (by decide))<|rfl
noncomputable def T.delta (t:T) (i:Nat) (a:Int):T:=if qU a=0 then t else t.go i (qU a)
noncomputable def uV:List (Int×I):=[(93,.int 0),(113,.int 16),(114,.int 32)]
theorem afN (Z:c4 N (k::p)) (F:B.t.cG m) {a:Int} (aY:a=56\/a=50\/a=79) (aR:B.t.told=xs++[a,i,1]) (aP:xs.length<60) (aj:i<m):
  aJ (n+6) p 898 [.ref (N.f .work),.int 93] ⟨aq N G B,k⟩=some (.none,⟨aq N G {B with t:=(B.t.dw xs).delta i a},k+1⟩):=by
 have aeI:B.t.told=(xs++[a,i])++[1]:=by rw[aR,nM];rfl
 have mS:(xs++[a,i]).length<64:=by rw[gO];exact lW (ON aP 2) (by decide)
 have q4:(xs++[a]).length<64:=A0 aP
 have s2:=(nM xs [a] [i]).symm
 have sI:new (k::p) (.cB uV) ⟨aq N G B,0⟩=some (.ref (0::k::p),⟨aq N (G.set (0::k::p) (.cB uV)) B,1⟩):=cJ (λh=>some (I.ref (0::k::p),bL.mk h 1)) (rZ Z)
 have tW:∀{x},item (.ref (0::k::p)) (.int 93) ⟨aq N (G.set (0::k::p) (.cB uV)) B,x⟩=some (.int 0,⟨aq N (G.set (0::k::p) (.cB uV)) B,x⟩):=GS ((Ds Z).trans cP) rfl
 have gq:∀{p C},jk p "range" [.int 1] C=some (.eo 0 (1:Nat),C):=qy _ 1 (by decide) _
 rw[Q.uT (az:=aq N (G.set (0::k::p) (.cB uV)) {B with t:=(B.t.dw xs).delta i a}) rfl (Q.ZL _ _ _ _) ?_,DQ Z,vv,p8]
 refine Q.B sI ?_
 refine Q.B tW<|Q.B nK<|Q.B cR<|Q.B uy<|Q.B (Q.c_ rfl nE)<|Q.B gC<|Q.B jU<|Q.B (Q.c_ rfl (jQ (Z.sub _) aeI mS))<|Q.B (Q.fR gq)<|?_
 by_cases hz:qU a=0
 .refine Q.B (RC (λau=>T5 ..) (E1:=vA (.ref (N.f .work)) (.int 93) (.int 0) (.ref (N.f .cR)) (.int 0) (.int (i:Nat)) (.int a) (.int (qU a))) (aT:=⟨aq N (G.set (0::k::p) (.cB uV)) (B.xJ xs),6⟩) (λau=>Q.iF (Q.Tq ..) ?_) (eZ (Q.TN ..) _)) ?_
  .exact Q.bx gC<|Q.bx jU<|Q.bx (Q.c_ rfl (jQ (Z.sub _) s2 q4))<|Q.bx gC<|Q.bx jU<|Q.bx (Q.c_ rfl (jQ (xs:=xs) (Z.sub _) rfl (mw aP)))<|Q.bx (SU aY)<|Q.bx (Q.ua hz)<|Q.fin
  .unfold T.delta;rw[bT hz];rfl
 .refine Q.B (RC (λau=>T5 ..) (E1:=vA (.ref (N.f .work)) (.int 93) (.int 0) (.ref (N.f .cR)) (.int 0) (.int (i:Nat)) (.int a) (.int (qU a))) (aT:=⟨aq N (G.set (0::k::p) (.cB uV)) {B with t:=(B.t.dw xs).go i (qU a)},8⟩) (λau=>Q.iF (Q.Tq ..) ?_) (eZ (Q.TN ..) _)) ?_
  .exact Q.bx gC<|Q.bx jU<|Q.bx (Q.c_ rfl (jQ (B:=B.xJ (xs++[a,(i:Int)])) (Z.sub _) s2 q4))<|Q.bx gC<|Q.bx jU<|Q.bx (Q.c_ rfl (jQ (xs:=xs) (Z.sub _) rfl (mw aP)))<|Q.bx (SU aY)<|Q.bx (Q.neT hz)<|Q.bx m9<|Q.bx (Q.c_ rfl (mR (Z.sub _) (F.ak aj) F.dM))<|Q.bx (pY (Z.sub _) (F.ak aj) F.dM F.oM)<|Q.fin
  .unfold T.delta;rw[bX hz];rfl
end
theorem Dy {r:ay} (aQ:h r=some (.list aa)) (j):g8 (.ref r) j ⟨h,x⟩=some (aa[j]?,⟨h,x⟩):=by
 show Y (obj r) _ _=_
 simp only[Y,obj,aQ,ai]
theorem ag7 {b9 ef:Type} {g:ef->I} {body:aL->(aL->aD I)->aD I} {K:aL->aD I} {R:I->b9->aL} {af:T->fF} {f:T->ef->T} {cZ:T->Prop} {aC:List ef} {r:ay} {N:fy} {G:bl}
  (aQ:N.g r=none) (cO:G r=some (.list (aC.map g)))
  (nC:∀w v u au,gr u (R w v) au=au (R u v))
  (aP:∀v t i k au,cZ t->i∈aC->∃fU,body (R (g i) v) au ⟨aq N G (af t),k⟩=au (R (g i) fU) ⟨aq N G (af (f t i)),k+c⟩)
  (ow:∀t i,cZ t->i∈aC->cZ (f t i)):
  ∀(d:Nat) (t:T) k w (v:b9) (dY fS),cZ t->fS+d=aC.length->d<dY->
   ∃ig fU,gP body gr (.ref r) K dY fS (R w v) ⟨aq N G (af t),k⟩=K (R ig fU) ⟨aq N G (af ((aC.drop fS).foldl f t)),k+c*d⟩:=
 Q.fold (λt k j=>Dy ((lS aQ).trans cO) j) nC aP ow
noncomputable def fP (b:Bool):Int:=if b then 1 else 0
noncomputable def Ay (o:Int) (f l:Int×Int):Int:=if o<=f.1 then o+f.2 -f.1 else if l.1<=o then o+l.2 -l.1 else f.2+ic (o -f.1) (l.2 -f.2) (l.1 -f.1)
noncomputable def T.jS (t:T) (b:Bool) (i:Nat):Int×Int:=(d9 b (t.cF.getD i (0,0)),d9 b (t.now.getD i (0,0)))
noncomputable def T.p5 (b:Bool) (f l:Int×Int) (t:T) (i:Nat):T:={t with now:=t.now.set i (up b (t.now.getD i (0,0)) (Ay (d9 b (t.cF.getD i (0,0))) f l))}
section
variable {N:fy} {G:bl} {B:fF}
theorem LH (q:Int×Int) (b) (C):item (e9 q) (.int (fP b)) C=some (.int (d9 b q),C):=by rcases b with _|_<;>rfl
theorem afR (o:Int) (f l:Int×Int) (az:-100000<o -f.1) (aE:o -f.1<100000) (b8:-100000<l.1 -f.1) (cH:l.1 -f.1<100000):aJ (n+2) p 905 [.int o,e9 f,e9 l] C=some (.int (Ay o f l),⟨C.h,C.k+1⟩):=by
 refine jM rfl (Q.ZM _ _ _ _ _) ?_
 unfold Ay
 by_cases a:o<=f.1
 .rw[bT a];exact Q.B (nD _ _)<|Q.B (Q.yZ a)<|Q.B (t8 _ _)<|Q.B (nD _ _)<|rfl
 .rw[bX a]
  by_cases b:l.1<=o
  .rw[bT b];exact Q.B (nD _ _)<|Q.B (Q.De a)<|Q.B (nD _ _)<|Q.B (Q.pT b)<|Q.B (t8 _ _)<|Q.B (nD _ _)<|rfl
  .rw[bX b]
   have z:l.1 -f.1≠0:=by omega
   exact Q.B (nD _ _)<|Q.B (Q.De a)<|Q.B (nD _ _)<|Q.B (Q.nV b)<|Q.B (t8 _ _)<|Q.B (nD _ _)<|Q.B (t8 _ _)<|Q.B (t8 _ _)<|Q.B (nD _ _)<|Q.B (nD _ _)<|Q.B (AV (o -f.1) (l.2 -f.2) (l.1 -f.1) (sY (lX (by decide) az) (lX aE (by decide))) z (lX (by decide) b8) (lX cH (by decide)))<|rfl
theorem GX (F:B.t.cG m) (aj:i<m) (b:Bool):aJ (n+1) p 919 [.ref (N.f .cR),.int i,.int (fP b)] ⟨aq N G B,k⟩=some (e9 (B.t.jS b i),⟨aq N G B,k+1⟩):=by
 refine jM rfl (Q.ZO _ _ _ _ _) ?_
 exact Q.B qb<|Q.B (pV (F.gH aj) F.k_)<|Q.B (LH _ _ _)<|Q.B iN<|Q.B (jq (F.ak aj) F.dM)<|Q.B (LH _ _ _)<|rfl
theorem V3 (aj:i<B.t.now.length) (aP:B.t.now.length<=100) (a b):ju (.ref (N.f .cur)) (.int i) (.tup [.int a,.int b]) ⟨aq N G B,k⟩=some ((),⟨aq N G {B with t:={B.t with now:=B.t.now.set i (a,b)}},k⟩):=V2 aj aP (a,b)
theorem agf (Z:c4 N (k::p)) (F:B.t.cG m) (aj:i<m) (b:Bool):aJ (n+1) p 912 [.ref (N.f .cR),.int i,.int (fP b),.int v] ⟨aq N G B,k⟩=some (.none,⟨aq N G {B with t:={B.t with now:=B.t.now.set i (up b (B.t.now.getD i (0,0)) v)}},k+1⟩):=by
 refine ko Z rfl (Q.ZN _ _ _ _ _ _) ?_
 rcases b with _|_
 .exact Q.B iN<|Q.B (jq (F.ak aj) F.dM)<|Q.B (Q.eqT rfl)<|Q.B iN<|Q.B (Q.gy (V3 (F.ak aj) F.dM _ _))<|rfl
 .exact Q.B iN<|Q.B (jq (F.ak aj) F.dM)<|Q.B (Q.eN (by decide))<|Q.B iN<|Q.B (Q.gy (V3 (F.ak aj) F.dM _ _))<|rfl
noncomputable def alC (N:fy) (b:Bool) (r:ay) (lB lD:Nat) (f l:Int×Int) (u:I) (v:Unit):aL:=[("zone",.ref (N.f .cR)),("axis",.int (fP b)),("numbers",.ref r),("one",.int lB),("other",.int lD),("first",e9 f),("last",e9 l),("i",u)]
theorem adn {b9:Type} {L:cy} {p:ay} {sc:Scope} {bd:List Stmt} {K:aL->aD I} {R:I->b9->aL} {af:T->fF} {f:T->Nat->T} {cZ:T->Prop} {c:Nat} {aC:List Nat} {r:ay} {N:fy} {G:bl} {t:T} {k:Nat} {w:I} {v:b9}
  (aQ:N.g r=none) (cO:G r=some (.list (aC.map λi:Nat=>.int i)))
  (nC:∀w v u au,asg L e sc p 3 xC u (R w v) au=au (R u v))
  (aP:∀v t i k au,cZ t->i∈aC->∃fU,c5 L e sc p bd (R (.int i) v) au ⟨aq N G (af t),k⟩=au (R (.int i) fU) ⟨aq N G (af (f t i)),k+c⟩)
  (ow:∀t i,cZ t->i∈aC->cZ (f t i)) (cE:∀w v C,K (R w v) C=some (.none,C)) (g:cZ t) (aI:aC.length<1000):
  jL L p e sc bd xC (.ref r) K (R w v) ⟨aq N G (af t),k⟩=some (.none,⟨aq N G (af (aC.foldl f t)),k+c*aC.length⟩):=by
 refine iu λaH ez=>?_
 obtain⟨ig,fU,h⟩:=ag7 aQ cO nC aP ow aC.length t k w v 1000 0 g (mH _) aI
 refine ez ?_
 refine Q.nj ?_ (h.trans (cE _ _ _))
 show Y (obj r) _ _=_
 simp only[Y,obj,(lS aQ).trans cO,ai]
theorem afP (Z:c4 N (k::p)) (F:B.t.cG m) (cO:B.t.lZ) {r:ay} {aC:List Nat} (aQ:N.g r=none) (wU:G r=some (.list (aC.map λi:Nat=>.int i))) (d8:∀i∈aC,i<m) (wW:aC.length<100) {lB lD:Nat} (az:lB<m) (aE:lD<m) (b):
  aJ (n+4) p 926 [.ref (N.f .cR),.int (fP b),.ref r,.int lB,.int lD] ⟨aq N G B,k⟩=
   some (.none,⟨aq N G {B with t:=aC.foldl (T.p5 b (if(B.t.jS b lD).1<(B.t.jS b lB).1 then B.t.jS b lD else B.t.jS b lB) (if(B.t.jS b lD).1<(B.t.jS b lB).1 then B.t.jS b lB else B.t.jS b lD)) B.t},k+1⟩):=by
 have eF:=λf l (bD:-1000<=f.1/\f.1<=1000) (aI:-1000<=l.1/\l.1<=1000) bq=>adn (K:=Mr (aJ (n+3)) (k::p)) (R:=alC N b r lB lD f l) (af:=λt=>{B with t:=t}) (f:=T.p5 b f l) (cZ:=λt=>t.cG m/\t.cF=B.t.cF) (c:=2) (aC:=aC) (r:=r) (t:=B.t) (k:=bq) (w:=.undef) (v:=())
  aQ wU (λw v u au=>ahO ..) (λv t i bq au g aj=>⟨(),Q.iF (Q.agR ..) (by
   obtain⟨iV,eL⟩:=g
   have rT:=d8 i aj
   have PT:-1000<=d9 b (t.cF.getD i (0,0))/\d9 b (t.cF.getD i (0,0))<=1000:=eL▸cO b i
   have sT:=λC=>afR (n:=n+1) (p:=k::p) (C:=C) (d9 b (t.cF.getD i (0,0))) f l (by omega) (by omega) (by omega) (by omega)
   exact Q.bx qb<|Q.bx (pV (iV.gH rT) iV.k_)<|Q.bx (LH _ _ _)<|Q.bx (sT _)<|Q.bx (agf (m:=m) (Z.sub _) iV rT _)<|Q.fin)⟩)
  (λt i g aj=>⟨⟨by simp[T.p5,g.1.now],by simp[T.p5,g.1.cF],by simp[T.p5,g.1.cD],by simp[T.p5,g.1.bf],g.1.ia⟩,g.2⟩) (λw v C=>eZ (Q.ahp ..) C) ⟨F,rfl⟩ (fV wW (by decide))
 refine ko Z rfl (Q.ZP _ _ _ _ _ _ _) ?_
 by_cases w4:(B.t.jS b lD).1<(B.t.jS b lB).1
 .rw[bT w4,bT w4]
  exact Q.B (GX F az _)<|Q.B (GX F aE _)<|Q.B (nD _ _)<|Q.B (nD _ _)<|Q.B (Q.wQ w4)<|Q.B (eF _ _ (cO b lD) (cO b lB) _)<|rfl
 .rw[bX w4,bX w4]
  exact Q.B (GX F az _)<|Q.B (GX F aE _)<|Q.B (nD _ _)<|Q.B (nD _ _)<|Q.B (Q.uZ w4)<|Q.B (eF _ _ (cO b lB) (cO b lD) _)<|rfl
end
end Mine.lK
namespace Mine
theorem pW {C gR oi:bL} (nw:a C=some (x,gR)) (oW:b gR=some (y,oi)) (e:item x y oi=D):aV a b C=D:=h9 nw (h9 oW e)
theorem Fs {C gR oi:bL} (nw:a C=some (x,gR)) (oW:b gR=some (y,oi)) (e:fk q o x y oi=D):aU q o a b C=D:=h9 nw (h9 oW e)
theorem adR {C gR:bL} (nw:a C=some (x,gR)) (e:fB x (Str.ofString s) gR=D):a_ a s C=D:=h9 nw e
inductive O3 (kh:aL->aD Bool) (ek:aL->aD I) J eg b5 C (P:List I->bL->Prop):Prop
 |skip gR (e:kh J C=some (false,gR)) (h:P b5 gR)
 |take (gR oi) u (e:kh J C=some (true,gR)) (bK:ek J gR=some (u,oi)) (a:oi.h eg=some (.list b5)) (h:b5.length<100000->P (b5++[u]) ⟨oi.h.set eg (.list (b5++[u])),oi.k⟩)
section
variable {R:I->aL} {aa:List I} {aS:Nat->List I->bL->Prop}
theorem abd (cC:∀w v,(R w).put x v=R v) (bG:∀j b5 C,aS j b5 C->g8 it j C=some (aa[j]?,C)) (j8:∀j b5 C,aS j b5 C->b5.length<=j)
  (aR:∀j b5 C (h:j<aa.length),aS j b5 C->O3 kh ek (R aa[j]) eg b5 C (aS (j+1))) (aI:aa.length<1000) (d):
  ∀dY j b5 C w,aS j b5 C->j+d=aa.length->d<dY->∃Eo aT,rO kh ek x it eg (R w) dY j C=some ((),aT)/\aS aa.length Eo aT:=by
 induction d with
 |zero=>
  intro dY j b5 C w dJ e bD
  have e:j=aa.length:=e
  induction dY with
  |zero=>exact absurd bD (rD _)
  |succ dY=>exact⟨b5,C,h9 ((bG j b5 C dJ).trans (by rw[sd (ng e.symm)])) rfl,e▸dJ⟩
 |succ d ih=>
  intro dY j b5 C w dJ e bD
  induction dY with
  |zero=>exact absurd bD (rD _)
  |succ dY=>
   have aW:=e▸ER (BS d)
   have ff:=(EO j d).trans e
   have n:=(bG j b5 C dJ).trans (by rw[h7 aW])
   refine(aR j b5 C aW dJ).rec (λgR t h=>?_) (λgR oi u t bK a h=>?_)
   .exact(ih dY (j+1) b5 gR aa[j] h ff (zY bD)).elim λEo z=>z.elim λaT z=>⟨Eo,aT,h9 n (show Y (kh ((R w).put x aa[j])) _ C=_ by rw[cC];exact h9 t z.1),z.2⟩
   .have hz:b5.length<100000:=dg (j8 j b5 C dJ) (fV aW (fV aI (by decide)))
    exact(ih dY (j+1) _ _ aa[j] (h hz) ff (zY bD)).elim λEo z=>z.elim λaT z=>⟨Eo,aT,h9 n (show Y (kh ((R w).put x aa[j])) _ C=_ by
     rw[cC]
     refine h9 t (h9 (a:=()) (h9 bK (h9 (show obj eg oi=_ by unfold obj;rw[a]) ?_)) z.1)
     show(if _ then _ else _:aD Unit) _=_
     rw[bT (iU hz)]
     rfl),z.2⟩
end
section
variable {R:I->aL}
theorem FJ {aa:List I} {aS:Nat->List I->bL->Prop} (cC:∀w v,(R w).put x v=R v) (nW:jP it ⟨h,k⟩=some ((),⟨h,k⟩)) (bG:∀j b5 C,aS j b5 C->g8 it j C=some (aa[j]?,C)) (j8:∀j b5 C,aS j b5 C->b5.length<=j)
  (aR:∀j b5 C (h:j<aa.length),aS j b5 C->O3 (kh (k::p)) (ek (k::p)) (R aa[j]) (0::k::p) b5 C (aS (j+1))) (aI:aa.length<1000) (cj:aS 0 [] ⟨h.set (0::k::p) (.list []),1⟩) (w):
  ∃b5 aT,jZ p kh ek x it (R w) ⟨h,k⟩=some (.ref (0::k::p),⟨aT.h,k+1⟩)/\aS aa.length b5 aT:=
 (abd cC bG j8 aR aI aa.length 1000 0 [] _ w cj (mH _) aI).elim λb5 z=>z.elim λaT z=>⟨b5,aT,by
  unfold jZ
  simp only[Y,nW,sub,new,z.1,ai],z.2⟩
inductive B9 {ef:Type} (af:bl->bl) (G:bl) eg (aC:List ef) (eF:ef->Bool) (g:ef->I) j:List I->bL->Prop
 |mk y:B9 af G eg aC eF g j (((aC.take j).filter eF).map g) ⟨af (G.set eg (.list (((aC.take j).filter eF).map g))),y⟩
theorem adJ {aC:List ef} (h:j<aC.length):((aC.take (j+1)).filter eF).map g=((aC.take j).filter eF).map g++([aC[j]].filter eF).map g:=by
 rw[EE,h7 h,List.filter_append,qd];rfl
theorem Cy {ef:Type} {af:bl->bl} {G:bl} {aC:List ef} {mj g:ef->I} {eF:ef->Bool} (cC:∀w v,(R w).put x v=R v) (nW:jP it ⟨af G,k⟩=some ((),⟨af G,k⟩)) (bG:∀o j y,g8 it j ⟨af (G.set (0::k::p) o),y⟩=some ((aC.map mj)[j]?,⟨af (G.set (0::k::p) o),y⟩))
  (bY:∀o i y,i∈aC->kh (k::p) (R (mj i)) ⟨af (G.set (0::k::p) o),y⟩=some (eF i,⟨af (G.set (0::k::p) o),y⟩))
  (cK:∀o i y,i∈aC->eF i=true->∃lU,ek (k::p) (R (mj i)) ⟨af (G.set (0::k::p) o),y⟩=some (g i,⟨af (G.set (0::k::p) o),lU⟩))
  (oz:∀G o,(af G).set (0::k::p) o=af (G.set (0::k::p) o)) (aI:aC.length<1000) (w):
  jZ p kh ek x it (R w) ⟨af G,k⟩=some (.ref (0::k::p),⟨af (G.set (0::k::p) (.list ((aC.filter eF).map g))),k+1⟩):=by
 have Ms:(aC.map mj).length=aC.length:=fD mj
 have c9:∀(G:bl) (o:cw),af (G.set (0::k::p) o) (0::k::p)=some o:=λG o=>by rw[<-oz];unfold bl.set;rw[bT rfl]
 have amq:∀(G:bl) a b,(G.set (0::k::p) a).set (0::k::p) b=G.set (0::k::p) b:=λG a b=>by funext y;unfold bl.set;split<;>rfl
 refine(FJ (aa:=aC.map mj) (aS:=B9 af G (0::k::p) aC eF g) cC nW (λj b5 C aS=>aS.rec λy=>bG _ j y) (λj b5 C aS=>aS.rec λy=>?_)
  (λj b5 C h aS=>aS.rec λy=>?_) (Ms▸aI) ?_ w).elim λb5 z=>z.elim λC z=>z.1.trans ?_
 .rw[fD]
  exact d5 (OL ..) (by rw[BY];exact Nat.min_le_left ..)
 .have aW:=Ms▸h
  rw[List.getElem_map]
  have M:=B9.mk (af:=af) (G:=G) (eg:=0::k::p) (aC:=aC) (eF:=eF) (g:=g) (j:=j+1)
  rw[adJ aW]at M
  cases bD:eF aC[j]with
  |false=>
   rw[List.filter_cons_of_neg (by rw[bD];exact xP)]at M
   exact .skip _ (bD▸bY _ aC[j] y (sf aW)) (vR (((aC.take j).filter eF).map g)▸M y)
  |true=>
   rw[List.filter_cons_of_pos bD]at M
   exact(cK _ aC[j] y (sf aW) bD).elim λlU e=>.take _ _ _ (bD▸bY _ aC[j] y (sf aW)) e (c9 _ _) λU=>by
    have oP:=M lU
    rw[<-amq _ (.list (((aC.take j).filter eF).map g)),<-oz]at oP
    exact oP
 .rw[oz];exact B9.mk 1
 .have key:∀{j b5 C},B9 af G (0::k::p) aC eF g j b5 C->j=aC.length->C.h=af (G.set (0::k::p) (.list ((aC.filter eF).map g))):=λaS e=>aS.rec (motive:=λb5 C U=>C.h=_) λy=>by rw[e,Jc]
  rw[key z.2 Ms]
end
end Mine
namespace Mine.lK
noncomputable abbrev bZ (i:Nat):I:=.int i
theorem Nx (a b fS) (h:a+fS<b) (C):g8 (.eo (a:Nat) (b:Nat)) fS C=some (some (.int (a+fS:Nat)),C):=by
 have e:decide (((a:Nat):Int)+fS<b)=true:=by simp;omega
 show ai (if decide (((a:Nat):Int)+(fS:Nat)<(b:Nat))then some (I.int (((a:Nat):Int)+(fS:Nat)))else none) C=_
 rw[e];simp[ai]
theorem DT (a b fS) (h:b<=a+fS) (C):g8 (.eo (a:Nat) (b:Nat)) fS C=some (none,C):=by
 have e:decide (((a:Nat):Int)+fS<b)=false:=by simp;omega
 show ai (if decide (((a:Nat):Int)+(fS:Nat)<(b:Nat))then some (I.int (((a:Nat):Int)+(fS:Nat)))else none) C=_
 rw[e];simp[ai]
theorem VN (h:b=a+n) (j):g8 (.eo (a:Nat) (b:Nat)) j C=some (((List.range' a n).map bZ)[j]?,C):=by
 rw[jI]
 by_cases aW:j<n
 .rw[Nx a b j (h▸rB aW a),OO aW,Nat.one_mul];rfl
 .rw[DT a b j (h▸uA (BZ aW) a),sd (by rw[se];exact BZ aW)];rfl
noncomputable def mX (aC:List Nat) (a e at_:Nat):List Nat:=if at_+1<aC.length then List.range' (aC.getD at_ 0+1) (aC.getD (at_+1) 0 -(aC.getD at_ 0+1))else List.range' (aC.getD at_ 0+1) (e+1 -(aC.getD at_ 0+1))++List.range' a (aC.getD 0 0 -a)
noncomputable def T.lo (t:T) (b:Bool) (lB lD:Nat):Int×Int:=if(t.jS b lD).1<(t.jS b lB).1 then t.jS b lD else t.jS b lB
noncomputable def T.aj (t:T) (b:Bool) (lB lD:Nat):Int×Int:=if(t.jS b lD).1<(t.jS b lB).1 then t.jS b lB else t.jS b lD
noncomputable def kg (aC:List Nat) (at_:Nat):Nat:=aC.getD (if at_+1<aC.length then at_+1 else 0) 0
noncomputable def T.oU (b:Bool) (aC:List Nat) (a e:Nat) (t:T) (at_:Nat):T:=(mX aC a e at_).foldl (T.p5 b (t.lo b (aC.getD at_ 0) (kg aC at_)) (t.aj b (aC.getD at_ 0) (kg aC at_))) t
noncomputable def T.flag (t:T) (b:Bool) (i:Nat):Bool:=if b then(t.cD.getD i (false,false)).2 else(t.cD.getD i (false,false)).1
noncomputable def T.marks (t:T) (b:Bool) (a e:Nat):List Nat:=(List.range' a (e+1 -a)).filter (t.flag b)
noncomputable def T.qj (b:Bool) (a e:Nat) (t:T):T:=(List.range (t.marks b a e).length).foldl (T.oU b (t.marks b a e) a e) t
section
variable {N:fy} {G:bl} {B:fF}
theorem KP {t:T} (F:t.cG m) (b) (aC) (a e at_):(t.oU b aC a e at_).cG m/\(t.oU b aC a e at_).cF=t.cF/\(t.oU b aC a e at_).cD=t.cD/\(t.oU b aC a e at_).cL=t.cL:=by
 unfold T.oU
 generalize t.lo b _ _=f
 generalize t.aj b _ _=l
 generalize mX aC a e at_=ns
 induction ns generalizing t with
 |nil=>exact⟨F,rfl,rfl,rfl⟩
 |cons j ns ih=>
  have:=@ih (t.p5 b f l j) ⟨by simp[T.p5,F.now],by simp[T.p5,F.cF],by simp[T.p5,F.cD],by simp[T.p5,F.bf],F.ia⟩
  exact this
theorem Vs (a b):Be (a:Nat) (b:Nat)=(List.range' a (b -a)).map bZ:=by
 unfold Be
 have:(((b:Nat):Int) -a).toNat=b -a:=by omega
 rw[this,List.range'_eq_map_range,rF]
 rfl
theorem Mg (Z:c4 N q) (a b) (aY:a<500) (aP:b<500):jk q "list" [.eo (a:Nat) (b:Nat)] ⟨aq N G B,x⟩=some (.ref (x::q),⟨aq N (G.set (x::q) (.list ((List.range' a (b -a)).map bZ))) B,x+1⟩):=by
 have iI:∀a b,jk q "list" [.eo a b]=if decide (b -a<=1000)&&(k8 a&&k8 b)then new q (.list (Be a b))else no:=λU U=>rfl
 have bk:decide (((b:Nat):Int) -a<=1000)=true:=by simp;omega
 rw[iI,bk,t6 a (by omega),t6 b (by omega),Vs]
 simp only[Bool.and_self,jW,new,rZ Z]
theorem Ie (q) (a b) (aY:a<500) (aP:b<500) (C):jk q "range" [.int (a:Nat),.int (b:Nat)] C=some (.eo a b,C):=by
 have iI:∀a b,jk q "range" [.int a,.int b]=if k8 a&&k8 b then ai (.eo a b)else no:=λU U=>rfl
 rw[iI,t6 a (by omega),t6 b (by omega)]
 rfl
theorem LN (a b) (aY:a<500) (aP:b<500) (C):jP (.eo (a:Nat) (b:Nat)) C=some ((),C):=by
 have iI:∀a b,jP (.eo a b)=if k8 a&&k8 b then ai ()else no:=λU U=>rfl
 rw[iI,t6 a (by omega),t6 b (by omega)]
 rfl
end
theorem kD (i):((i:Nat):Int)+1=((i+1:Nat):Int):=rfl
theorem ads (i l) (h:i<l):(((i+1:Nat):Int)).fmod ((l:Nat):Int)=((if i+1<l then i+1 else 0:Nat):Int):=by
 rw[xO _ (by omega)]
 split
 .exact OV (by omega) (by omega)
 .have:i+1=l:=by omega
  rw[this];simp
noncomputable def Bg (N:fy) (b:Bool) (a e:Nat) (q:ay) (u:I) (v:I×I×I):aL:=[(("zone":Str),.ref (N.f .cR)),(("axis":Str),.int (fP b)),(("first":Str),.int (a:Nat)),(("last":Str),.int (e:Nat)),(("touched":Str),.ref (0::0::q)),(("at":Str),u),(("one":Str),v.1),(("other":Str),v.2.1),(("numbers":Str),v.2.2)]
section
variable {N:fy} {G:bl} {B:fF} {i m:Nat}
theorem X7 {r s:ay} {x y:List Nat} (Z:c4 N q) (aQ:N.g r=none) (aR:N.g s=none) (az:G r=some (.list (x.map bZ))) (aE:G s=some (.list (y.map bZ))) (hz:x.length+y.length<1000):
  fk q .Add (.ref r) (.ref s) ⟨aq N G B,bq⟩=some (.ref (bq::q),⟨aq N (G.set (bq::q) (.list ((x++y).map bZ))) B,bq+1⟩):=by
 have bk:aq N G B r=some (.list (x.map bZ)):=(lS aQ).trans az
 have bK:aq N G B s=some (.list (y.map bZ)):=(lS aR).trans aE
 have gJ:decide ((x.map bZ).length+(y.map bZ).length<=100000)=true:=by simp;omega
 show Y (obj r) _ _=_
 simp only[Y,obj,jb,bk,bK,gJ,jW,new,rZ Z,qd]
theorem RI (h:i<l):fk p .Mod (.int ((i:Nat)+1)) (.int (l:Nat)) C=some (.int ((if i+1<l then i+1 else 0:Nat):Int),C):=by
 rw[Q.n4 (by omega),kD,ads i l h]
theorem zw (aY:a<500) (aP:b<500):jk q "range" [.int (a:Nat),.int (b:Nat)] C=some (.eo (a:Nat) (b:Nat),C):=Ie q a b aY aP C
theorem afF (Z:c4 N (k::p)) (F:B.t.cG m) (cO:B.t.lZ) {r:ay} {aC:List Nat} (aQ:N.g r=none) (wU:G r=some (.list (aC.map bZ))) (d8:∀i∈aC,i<m) (wW:aC.length<100) (az:lB<m) (aE:lD<m):
  Q.run ((Q.FD (aJ (n+5)) (k::p) au (.ref (N.f .cR)) (.int (fP b)) aB aK aX bg (.int (lB:Nat)) (.int (lD:Nat)) (.ref r)).cps Q.ret) ⟨aq N G B,bq⟩=au (zA (.ref (N.f .cR)) (.int (fP b)) aB aK aX bg (.int (lB:Nat)) (.int (lD:Nat)) (.ref r)) ⟨aq N G {B with t:=aC.foldl (T.p5 b (B.t.lo b lB lD) (B.t.aj b lB lD)) B.t},bq+1⟩:=by
 exact Q.bx (afP (Z.sub _) F cO aQ wU d8 wW az aE b)<|Q.fin
theorem yD {aC:List Nat} (h:j<aC.length):aC.getD j 0∈aC:=by
 rw[kU,h7 h];exact sf h
theorem HK {aC:List Nat} (h:at_<aC.length):(if at_+1<aC.length then at_+1 else 0)<aC.length:=
 if g:at_+1<aC.length then(bT g).symm▸g else(bX g).symm▸dg (lY at_) h
theorem T8 (az:s<=i) (aE:i<s+(c -s)):i<c:=by omega
theorem aiX (d8:∀i∈aC,a<=i/\i<=e) (h:at_<aC.length) (i:Nat) (aj:i∈mX aC a e at_):i<=e:=by
 have jd:∀{s c:Nat},i∈List.range' s (c -s)->i<c:=λz=>T8 (List.mem_range'_1.mp z).1 (List.mem_range'_1.mp z).2
 unfold mX at aj
 by_cases g:at_+1<aC.length
 .rw[bT g]at aj
  exact d5 (sq (jd aj)) (d8 _ (yD g)).2
 .rw[bX g]at aj
  exact(List.mem_append.mp aj).elim (λz=>z3 (jd z)) λz=>d5 (sq (jd z)) (d8 _ (yD (dg (lY at_) h))).2
inductive Xm (N:fy) (G bu:bl) (B:fF) (q:ay) (b:Bool) (aC:List Nat) (a e at_:Nat) (t:T) (au:aL->aD I) (D:Option (I×bL)):Prop
 |mk (rG:bl) (fU:I×I×I) (oC:Nat) (x:D=au (Bg N b a e q (bZ at_) fU) ⟨aq N rG {B with t:=t.oU b aC a e at_},oC⟩) (h:rG (0::0::q)=some (.list (aC.map bZ))) (r:jt q G rG=jt q G bu)
section
variable {aC:List Nat} {bu:bl} {t:T}
theorem IJ (Z:c4 N (k::p)) (aI:aC.length<=7) (h:bu (0::0::k::p)=some (.list (aC.map bZ))) (aW:j<aC.length):item (.ref (0::0::k::p)) (.int (j:Nat)) ⟨aq N bu B,bq⟩=some (.int (aC.getD j 0:Nat),⟨aq N bu B,bq⟩):=
 jz ((lS (qk (Z.sub 0) 0)).trans h) (by rw[jI,h7 aW,kU,h7 aW];rfl) (fV aW (dg aI (by decide)))
theorem IK (Z:c4 N (k::p)) (aI:aC.length<=7) (h:bu (0::0::k::p)=some (.list (aC.map bZ))):builtin q "len" [.ref (0::0::k::p)] ⟨aq N bu B,bq⟩=some (.int (aC.length:Nat),⟨aq N bu B,bq⟩):=
 (o6 ((lS (qk (Z.sub 0) 0)).trans h) (by rw[fD];exact d5 aI (by decide))).trans (by rw[fD])
theorem HC:(0::0::q:ay)≠y::q:=λz=>List.cons_ne_self 0 q (vS z).2
variable (Z:c4 N (k::p)) (cO:t.lZ) (d8:∀i∈aC,a<=i/\i<=e) (cK:e<m) (aI:aC.length<=7) (o3:at_<aC.length) (oZ:bu (0::0::k::p)=some (.list (aC.map bZ))) (Ac:t.cG m)
include Z cO d8 cK o3 Ac in
theorem Ra {oh:bl} {y:Nat} (h:oh (y::k::p)=some (.list ((mX aC a e at_).map bZ))) (bG:(mX aC a e at_).length<100):
  Q.run ((Q.FD (aJ (n+5)) (k::p) au (.ref (N.f .cR)) (.int (fP b)) (.int (a:Nat)) (.int (e:Nat)) (.ref (0::0::k::p)) (bZ at_) (.int (aC.getD at_ 0:Nat)) (.int (kg aC at_:Nat)) (.ref (y::k::p))).cps Q.ret) ⟨aq N oh {B with t:=t},bq⟩=au (Bg N b a e (k::p) (bZ at_) (bZ (aC.getD at_ 0),bZ (kg aC at_),.ref (y::k::p))) ⟨aq N oh {B with t:=t.oU b aC a e at_},bq+1⟩:=
 afF (B:={B with t:=t}) Z Ac cO (qk Z y) h (λi aj=>dg (aiX d8 o3 i aj) cK) bG (dg (d8 _ (yD o3)).2 cK) (dg (d8 _ (yD (HK o3))).2 cK)
include Z cO d8 cK aI o3 oZ Ac in
theorem abF:Xm N G bu B (k::p) b aC a e at_ t au (c5 (aJ (n+5)) 96 (aA 136).sc (k::p) G6 (Bg N b a e (k::p) (bZ at_) v) au ⟨aq N bu {B with t:=t},bq⟩):=by
 have ia:=Ac.ia
 have lA:=(d8 _ (yD o3)).2
 have kR:=(d8 _ (yD (HK o3))).2
 have tW:e<7:=lW cK ia
 have nI:aC.getD at_ 0+1<500:=dg (z4 lA) (fV (EG tW) (by decide))
 have iM:kg aC at_<500:=dg kR (fV tW (by decide))
 by_cases g:at_+1<aC.length
 .have pe:mX aC a e at_=List.range' (aC.getD at_ 0+1) (kg aC at_ -(aC.getD at_ 0+1)):=by unfold mX kg;rw[bT g,bT g]
  exact .mk (bu.set (bq::k::p) (.list ((mX aC a e at_).map bZ))) (bZ (aC.getD at_ 0),bZ (kg aC at_),.ref (bq::k::p)) (bq+2)
   (Q.iF (Q.Tt ..)<|Q.bx (IJ Z aI oZ o3)<|Q.bx (Q.iy (IK Z aI oZ))<|Q.bx (RI o3)<|Q.bx (IJ Z aI oZ (HK o3))<|Q.bx (Q.iy (IK Z aI oZ))<|Q.bx (Q.j_ (Int.ofNat_lt.mpr g))<|Q.bx (Q.fR (zw nI iM))<|Q.bx (Q.fR ((Mg Z _ _ nI iM).trans (by rw[<-pe])))<|
    Ra Z cO d8 cK o3 Ac cP (by rw[pe,se];exact dg (BV ..) (dg kR (fV tW (by decide))))) ((dP HC).trans oZ) vv
 .have pe:mX aC a e at_=List.range' (aC.getD at_ 0+1) (e+1 -(aC.getD at_ 0+1))++List.range' a (kg aC at_ -a):=by unfold mX kg;rw[bX g,bX g]
  have p6:e+1<500:=fV (EG tW) (by decide)
  have Bd:a<500:=dg (d8 _ (yD o3)).1 (OW nI)
  have mS:(List.range' (aC.getD at_ 0+1) (e+1 -(aC.getD at_ 0+1))).length<=8:=by rw[se];exact d5 (BV ..) (sq (EG tW))
  have q4:(List.range' a (kg aC at_ -a)).length<=8:=by rw[se];exact d5 (BV ..) (d5 kR (sq (fV tW (by decide))))
  exact .mk (((bu.set (bq::k::p) (.list _)).set ((bq+1)::k::p) (.list _)).set ((bq+1+1)::k::p) (.list ((mX aC a e at_).map bZ))) (bZ (aC.getD at_ 0),bZ (kg aC at_),.ref ((bq+1+1)::k::p)) (bq+1+1+2)
   (Q.iF (Q.Tt ..)<|Q.bx (IJ Z aI oZ o3)<|Q.bx (Q.iy (IK Z aI oZ))<|Q.bx (RI o3)<|Q.bx (IJ Z aI oZ (HK o3))<|Q.bx (Q.iy (IK Z aI oZ))<|Q.bx (Q.kQ (λz=>g (Int.ofNat_lt.mp z)))<|Q.bx (Q.fR (zw nI p6))<|Q.bx (Q.fR (Mg Z _ _ nI p6))<|Q.bx (Q.fR (zw Bd iM))<|Q.bx (Q.fR (Mg Z _ _ Bd iM))<|
    Q.bx ((X7 Z (qk Z _) (qk Z _) ((dP (λz=>z5 bq (vS z).1.symm)).trans cP) cP (dg (mG mS q4) (by decide))).trans (by rw[<-pe]))<|
    Ra Z cO d8 cK o3 Ac cP (by rw[pe,gO];exact dg (mG mS q4) (by decide))) ((dP HC).trans ((dP HC).trans ((dP HC).trans oZ))) (by rw[vv,vv,vv])
end
end
section
variable {N:fy} {G:bl} {B:fF}
theorem DU (j):g8 (.eo 0 (aC:Nat)) j C=some (((List.range aC).map bZ)[j]?,C):=by
 rw[jI]
 by_cases h:j<aC
 .rw[Q.Nt h,z0 h,BR];rfl
 .rw[sd (by rw[uB];exact BZ h)]
  show some (if decide ((0:Int)+(j:Nat)<(aC:Nat))then _ else _,C)=_
  rw[BR,bX (λz=>h (Int.ofNat_lt.mp (kJ z)))];rfl
noncomputable def yu (b:Bool) (aC:List Nat) (a e:Nat) (t:T) (j:Nat):T:=(List.range j).foldl (T.oU b aC a e) t
theorem Q_ (b) (aC) (a e) (t) (j):yu b aC a e t (j+1)=(yu b aC a e t j).oU b aC a e j:=by
 unfold yu
 rw[Jf,I9];rfl
theorem Q9 (F:t.cG m) (b) (aC) (a e j):(yu b aC a e t j).cG m/\(yu b aC a e t j).cF=t.cF:=by
 induction j with
 |zero=>exact⟨F,rfl⟩
 |succ j ih=>rw[Q_];exact⟨(KP ih.1 b aC a e j).1,(KP ih.1 b aC a e j).2.1.trans ih.2⟩
inductive Ju (N:fy) (G:bl) (B:fF) q (b:Bool) aC (a e) j:aL->bL->Prop
 |mk w (v:I×I×I) (bu:bl) bq (oZ:bu (0::0::q)=some (.list (aC.map bZ))) (cC:jt q G bu=G):Ju N G B q b aC a e j (Bg N b a e q w v) ⟨aq N bu {B with t:=yu b aC a e B.t j},bq⟩
theorem abG (Z:c4 N (k::p)) (F:B.t.cG m) (cO:B.t.lZ) (b) (d8:∀i∈aC,a<=i/\i<=e) (cK:e<m) (wW:aC.length<=7) (bq) (w) (v) (oZ:bu (0::0::k::p)=some (.list (aC.map bZ))) (cC:jt (k::p) G bu=G):
   ∃J C,gP (λJ au=>c5 (aJ (n+5)) 96 (aA 136).sc (k::p) G6 J au) (λv J au=>asg (aJ (n+5)) 96 (aA 136).sc (k::p) 3 Hr v J au) (.eo 0 aC.length) (A2 (aJ (n+5)) (k::p)) 1000 0 (Bg N b a e (k::p) w v) ⟨aq N bu B,bq⟩=
    A2 (aJ (n+5)) (k::p) J C/\Ju N G B (k::p) b aC a e aC.length J C:=by
 have m6:((List.range aC.length).map bZ).length=aC.length:=(fD ..).trans uB
 have nG:=Q.gen (gr:=λv J au=>asg (aJ (n+5)) 96 (aA 136).sc (k::p) 3 Hr v J au) (K:=A2 (aJ (n+5)) (k::p)) (aS:=Ju N G B (k::p) b aC a e)
  (λj J C U=>DU j)
  (λj h J C au dJ=>dJ.rec λw v rH bq oZ cC=>
   (abF (n:=n) Z (λfM i=>(Q9 F b aC a e j).2.symm▸cO fM i) d8 cK wW (m6▸h) oZ (Q9 F b aC a e j).1).rec λoh j4 gK x aec ad7=>
    ⟨_,_,by
     rw[show((List.range aC.length).map bZ)[j]=bZ j by rw[List.getElem_map,OU]]
     refine(eZ (ahP ..) _).trans (x.trans ?_)
     rw[<-Q_],.mk (bZ j) j4 oh gK aec (ad7.trans cC)⟩)
  aC.length 1000 0 (Bg N b a e (k::p) w v) ⟨aq N bu B,bq⟩ (.mk w v bu bq oZ cC) ((mH _).trans m6.symm) (dg wW (by decide))
 rw[m6]at nG
 exact nG
theorem anP (aj:i<B.t.cD.length) (b):item (.ref (N.f (.jF i))) (.int (fP b)) ⟨aq N G B,k⟩=some (.bool (B.t.flag b i),⟨aq N G B,k⟩):=by
 rcases b with _|_
 .exact jz (g7 (FN aj)) rfl (by decide)
 .exact jz (g7 (FN aj)) rfl (by decide)
theorem ah2 {t:T} (h:i∈t.marks b a e):a<=i/\i<=e:=
 have z:=List.mem_range'_1.mp (List.mem_filter.mp h).1
 ⟨z.1,z3 (T8 z.1 z.2)⟩
theorem T.cG.WC {t:T} (F:t.cG m) (h:i<m):i<t.cD.length:=F.cD▸h
theorem T.cG.amX {t:T} (F:t.cG m):t.cD.length<=100:=F.cD▸d5 F.ia (by decide)
theorem afQ (Z:c4 N (k::p)) (F:B.t.cG m) (cO:B.t.lZ) (b:Bool) (Sd:a<=e) (cK:e<m):
  aJ (n+6) p 931 [.ref (N.f .cR),.int (fP b),.int a,.int e] ⟨aq N G B,k⟩=some (.none,⟨aq N G {B with t:=B.t.qj b a e},k+1⟩):=by
 have aI:=Z.sub
 have ia:=F.ia
 have Cn:e+1<500:=dg (d5 cK ia) (by decide)
 have JQ:=dg Sd (OW Cn)
 have nw:=Nat.add_sub_of_le (Nat.le_succ_of_le Sd)
 let aC:=B.t.marks b a e
 have comp:jZ (k::p) (λq J=>gv (aJ (n+5)) 97 As q J (ee yo 2)) (λq J=>eK (aJ (n+5)) 97 As q J (ee yo 0)) "i" (.eo a (e+1:Nat)) [(".0",.undef),("i",.undef),("axis",.int (fP b)),("zone",.ref (N.f .cR))] ⟨aq N G B,0⟩=
   some (.ref (0::0::k::p),⟨aq N (G.set (0::0::k::p) (.list (aC.map bZ))) B,1⟩):=by
  refine Cy (af:=λG=>aq N G B) (R:=λv=>[((".0":Str),.undef),(("i":Str),v),(("axis":Str),.int (fP b)),(("zone":Str),.ref (N.f .cR))]) (λw v=>rfl) (LN a (e+1) JQ Cn _) (λo j y=>VN nw.symm j) (λo j y h=>?_) (λo j y h U=>⟨y,?_⟩) (λG o=>rZ (aI 0)) (by rw[se];exact dg (BV ..) (fV Cn (by decide))) .undef
  .have aW:j<m:=lW (List.mem_range'_1.mp h).2 (d5 (ng nw) cK)
   exact(eZ (abz ..) _).trans (h9 (pW (pW (adR rfl OB) rfl (LK (F.WC aW) F.amX)) rfl (anP (F.WC aW) b)) rfl)
  .exact eZ (aa8 ..) _
 have agA:aC.length<=7:=d5 (OL ..) (by rw[se];exact d5 (BV ..) (d5 cK ia))
 have gt:N.g (0::0::k::p)=none:=qk (aI 0) 0
 have rH:((G.set (0::0::k::p) (.list (aC.map bZ))).set (1::k::p) (.list [])) (0::0::k::p)=some (.list (aC.map bZ)):=by rw[dP (by simp)];exact cP
 have aoq:aC.map bZ=(aC.map cY).map I.int:=by rw[rF];rfl
 have Hz:iK (k::p) [] ⟨aq N (G.set (0::0::k::p) (.list (aC.map bZ))) B,1⟩=some (.ref (1::k::p),⟨aq N ((G.set (0::0::k::p) (.list (aC.map bZ))).set (1::k::p) (.list [])) B,2⟩):=cJ (λh=>some (I.ref (1::k::p),bL.mk h 2)) (rZ Z)
 have cmp:∀{x},Q.dK (dX .Eq (.ref (0::0::k::p)) (.ref (1::k::p))) ⟨aq N ((G.set (0::0::k::p) (.list (aC.map bZ))).set (1::k::p) (.list [])) B,x⟩=
   some (.bool aC.isEmpty,⟨aq N ((G.set (0::0::k::p) (.list (aC.map bZ))).set (1::k::p) (.list [])) B,x⟩):=λ{x}=>Q.iC (C:=⟨_,x⟩) (by
  rw[KV (l:=aC.map cY) ((lS gt).trans (by rw[rH,aoq])) ((lS (qk Z 1)).trans cP)]
  cases aC<;>rfl)
 have NA:jt (k::p) G ((G.set (0::0::k::p) (.list (aC.map bZ))).set (1::k::p) (.list []))=G:=by
  rw[vv,VD (show k::p<:+0::0::k::p from⟨[0,0],rfl⟩),p8]
 have done:∀{oh:bl} {t:T},jt (k::p) G oh=G->Q.go ((Q.Qq (aJ (n+5)) (k::p) (.ref (N.f .cR)) (.int (fP b)) (.int (a:Nat)) (.int (e:Nat))).cps Q.ret) ⟨aq N G B,0⟩=some (.none,aq N oh {B with t:=t})->
   aJ (n+6) p 931 [.ref (N.f .cR),.int (fP b),.int (a:Nat),.int (e:Nat)] ⟨aq N G B,k⟩=some (.none,⟨aq N G {B with t:=t},k+1⟩):=λaE h=>by
  rw[Q.uT rfl (Q.ZR _ _ _ _ _ _) h,DQ Z,aE]
 have iP:=cmp (x:=2)
 cases bM:aC.isEmpty with
 |true=>
  rw[bM]at iP
  have aew:B.t.marks b a e=[]:=List.isEmpty_iff.mp bM
  have abE:B.t.qj b a e=B.t:=by unfold T.qj;rw[aew];rfl
  rw[abE]
  refine done NA ?_
  exact Q.B (Q.fR (zw JQ Cn))<|Q.B comp<|Q.B Hz<|Q.B iP<|rfl
 |false=>
  rw[bM]at iP
  have n3:∀{x},builtin (k::p) "len" [.ref (0::0::k::p)] ⟨aq N ((G.set (0::0::k::p) (.list (aC.map bZ))).set (1::k::p) (.list [])) B,x⟩=some (.int (aC.length:Nat),⟨aq N ((G.set (0::0::k::p) (.list (aC.map bZ))).set (1::k::p) (.list [])) B,x⟩):=λ{x}=>by
   have:=o6 (p:=k::p) (C:=⟨aq N ((G.set (0::0::k::p) (.list (aC.map bZ))).set (1::k::p) (.list [])) B,x⟩) ((lS gt).trans rH) (by simp;omega)
   simpa using this
  refine(abG (n:=n) (G:=G) (bu:=(G.set (0::0::k::p) (.list (aC.map bZ))).set (1::k::p) (.list [])) Z F cO b (λi aj=>ah2 aj) cK agA 2 .undef (.undef,.undef,.undef) rH NA).elim λJ z=>z.elim λC z=>z.2.rec (motive:=λJ C U=>gP _ _ _ _ _ _ _ _=A2 _ _ J C->_) (λWV j4 oh gK U aE az=>done (t:=yu b aC a e B.t aC.length) aE ?_) z.1
  exact Q.B (Q.fR (zw JQ Cn))<|Q.B comp<|Q.B Hz<|Q.B iP<|Q.B (Q.iy n3)<|Q.B (Q.fR (qy _ aC.length (by omega) _))<|Q.B (Q.nj (sS aC.length (by omega) _) (az.trans (eZ (Q.ahq ..) _)))<|rfl
end
noncomputable def tS (ao:List Nat) (c:Nat):Nat:=if c=0 then 0 else ao.getD (c -1) 0+1
noncomputable def T.ji (b:Bool) (ao:List Nat) (t:T):T:=(List.range ao.length).foldl (λt c=>t.qj b (tS ao c) (ao.getD c 0)) t
def uI (ao:List Nat) (m:Nat):Prop:=ao.length<=7/\∀c,c<ao.length->tS ao c<=ao.getD c 0/\ao.getD c 0<m
section
variable {N:fy} {G:bl} {B:fF}
theorem F8 {t:T} (F:t.cG m) (b) (a e):(t.qj b a e).cG m/\(t.qj b a e).cF=t.cF/\(t.qj b a e).cD=t.cD/\(t.qj b a e).cL=t.cL:=by
 unfold T.qj
 generalize t.marks b a e=aC
 generalize List.range aC.length=R
 induction R generalizing t with
 |nil=>exact⟨F,rfl,rfl,rfl⟩
 |cons j R ih=>
  obtain⟨qX,Gk,adb,lu⟩:=KP F b aC a e j
  obtain⟨gx,iX,jf,kN⟩:=ih qX
  exact⟨gx,iX.trans Gk,jf.trans adb,kN.trans lu⟩
theorem LI {ao:List Nat} (lQ:B.ends=ao.map cY) (aj:i<ao.length) (aP:ao.length<=100):item (.ref (N.f .ends)) (.int i) ⟨aq N G B,k⟩=some (.int (ao.getD i 0),⟨aq N G B,k⟩):=
 jz (g7 rfl) (by rw[lQ,rF,jI,h7 aj,kU,h7 aj];rfl) (by omega)
theorem G9 {ao:List Nat} (lQ:B.ends=ao.map cY) (aP:ao.length<=100) (q):builtin q "len" [.ref (N.f .ends)] ⟨aq N G B,k⟩=some (.int ao.length,⟨aq N G B,k⟩):=by
 have:=o6 (p:=q) (C:=⟨aq N G B,k⟩) (g7 (i:=.ends) rfl) (by rw[lQ];simp;omega)
 rw[lQ]at this
 simpa using this
theorem afM {ao:List Nat} (lQ:B.ends=ao.map cY) (aN:i<ao.length) (aP:ao.length<=100):aJ (n+1) p 863 [.ref (N.f .cR),.int i] ⟨aq N G B,k⟩=some (.tup [.int (tS ao i),.int (ao.getD i 0)],⟨aq N G B,k+1⟩):=by
 refine jM rfl (Q.ZJ _ _ _ _) ?_
 induction i with
 |zero=>exact Q.B (Q.yZ (Int.le_refl 0))<|Q.B zS<|Q.B (Q.iy (G9 lQ aP _))<|Q.B (Q.j_ (Int.ofNat_lt.mpr aN))<|Q.B (Q.eqT rfl)<|Q.B zS<|Q.B (LI lQ aN aP)<|rfl
 |succ j=>
  have sO:∀{k},item (.ref (N.f .ends)) (.int ((j+1:Nat) -1)) ⟨aq N G B,k⟩=some (.int (ao.getD j 0),⟨aq N G B,k⟩):=λ{k}=>by rw[show((j+1:Nat):Int) -1=j from Int.add_sub_cancel j 1];exact LI lQ (OW aN) aP
  exact Q.B (Q.yZ (BX _))<|Q.B zS<|Q.B (Q.iy (G9 lQ aP _))<|Q.B (Q.j_ (Int.ofNat_lt.mpr aN))<|Q.B (Q.eN (λz=>Nat.succ_ne_zero j (Int.ofNat.inj z)))<|Q.B zS<|Q.B sO<|Q.B zS<|Q.B (LI lQ aN aP)<|rfl
noncomputable def Nq (N:fy) (c:Int) (b:Bool) (u:I) (v:I×I):aL:=[("work",.ref (N.f .work)),("code",.int c),("axis",.int (fP b)),("zone",.ref (N.f .cR)),("contour",u),("first",v.1),("last",v.2)]
theorem aft (Z:c4 N (k::p)) (cO:B.t.lZ) {ao:List Nat} (lQ:B.ends=ao.map cY) (f6:uI ao m) (c) (b) (F:B.t.cG m):
  ∃ig fU,gP (λJ au=>c5 (aJ (n+6)) 96 (aA 137).sc (k::p) Ma J au) (λv J au=>asg (aJ (n+6)) 96 (aA 137).sc (k::p) 3 MB v J au) (.eo 0 ao.length) (Hi (aJ (n+6)) (k::p)) 1000 0 (Nq N c b .undef (.undef,.undef)) ⟨aq N G {B with t:=B.t},0⟩=
    Hi (aJ (n+6)) (k::p) (Nq N c b ig fU) ⟨aq N G {B with t:=B.t.ji b ao},0+2*ao.length⟩:=
 Q.fold (R:=Nq N c b) (af:=λt k=>⟨aq N G {B with t:=t},k⟩) (cZ:=λt=>t.cG m/\t.cF=B.t.cF) (λt k j=>DU j) (λU U U U=>ahQ ..)
  (λv t i bq au g h=>⟨(.int (tS ao i),.int (ao.getD i 0)),Q.iF (Q.agS ..)<|Q.bx (afM lQ (List.mem_range.mp h) (d5 f6.1 (by decide)))<|Q.bx (afQ (Z.sub _) g.1 (λb i=>by rw[g.2];exact cO b i) b (f6.2 i (List.mem_range.mp h)).1 (f6.2 i (List.mem_range.mp h)).2)<|Q.fin⟩)
  (λt i g h=>⟨(F8 g.1 b _ _).1,(F8 g.1 b _ _).2.1.trans g.2⟩) ao.length B.t 0 .undef (.undef,.undef) 1000 0 ⟨F,rfl⟩ ((mH _).trans List.length_range.symm) (dg f6.1 (by decide))
theorem afX (Z:c4 N (k::p)) (F:B.t.cG m) (cO:B.t.lZ) {ao:List Nat} (lQ:B.ends=ao.map cY) (f6:uI ao m) (c) (aN:decide (c.fmod 2=1)=f):
  aJ (n+7) p 938 [.ref (N.f .work),.int c] ⟨aq N G B,k⟩=some (.none,⟨aq N G {B with t:=B.t.ji (!f) ao},k+1⟩):=by
 refine(aft (n:=n) (G:=G) Z cO lQ f6 c (!f) F).elim λig h=>h.elim λfU h=>?_
 have G0:ao.length<1000:=dg f6.1 (by decide)
 refine ko Z rfl (Q.ZS _ _ _ _) ?_
 rcases f with _|_
 .exact Q.B (Q.n4 (by decide))<|Q.B (Q.iz aN)<|Q.B OA<|Q.B (LL ..)<|Q.B zS<|Q.B (Q.iy (G9 lQ (d5 f6.1 (by decide)) _))<|Q.B (Q.fR (qy _ _ G0 _))<|Q.B (Q.nj (sS _ G0 _) (h.trans (eZ (Q.TP ..) _)))<|rfl
 .exact Q.B (Q.n4 (by decide))<|Q.B (Q.iz aN)<|Q.B OA<|Q.B (LL ..)<|Q.B zS<|Q.B (Q.iy (G9 lQ (d5 f6.1 (by decide)) _))<|Q.B (Q.fR (qy _ _ G0 _))<|Q.B (Q.nj (sS _ G0 _) (h.trans (eZ (Q.TP ..) _)))<|rfl
end
section
variable {N:fy} {G:bl} {B:fF}
theorem yS (bJ:aH[i]?=some v) (hz:aH.length<=100000):item (.bytes aH) (.int (i:Nat)) C=some (.int (v:Nat),C):=by
 have iI:∀j,item (.bytes aH) (.int j)=if decide (0<=j)&&decide (aH.length<=100000)then Y (gU aH[j.toNat]?) λb=>ai (.int b)else no:=λU=>rfl
 have bk:(decide ((0:Int)<=i)&&decide (aH.length<=100000))=true:=by simp;omega
 rw[iI,bk,bT rfl,Int.toNat_natCast,bJ]
 rfl
theorem G7 (q) (hz:aH.length<=100000):builtin q "len" [.bytes aH] C=some (.int aH.length,C):=by
 show(if decide (aH.length<=100000)then ai (I.int (aH.length:Nat))else no) C=_
 rw[iU hz];rfl
theorem SZ (bJ:aH[i]?=some v) (hz:aH.length<=100000):aJ (n+1) p 184 [.bytes aH,.int (i:Nat)] C=some (.int (v:Nat),⟨C.h,C.k+1⟩):=by
 have aj:=(List.getElem?_eq_some_iff.mp bJ).1
 rw[AQ rfl,Y8]
 simp only[↓je,↓Av,↓Au,↓KJ,↓kr,↓ku,↓tU,↓p8,↓ak,↓bh,↓aV,↓ck,↓b7,↓dN,Qc,G7 _ hz,yS bJ hz,HB,aja,aj,qH,↓reduceIte,Ji,nL]
theorem C4 (a b c) (C):dX .In (.int a) (.tup [.int b,.int c]) C=some ([b,c].any (·==a),C):=rfl
theorem SW (o) (f) (bD:(decide (o=64\/o=65))=f) (bw:o<176\/192<=o):aJ (n+1) p 191 [.int (o:Nat)] C=some (.bool f,⟨C.h,C.k+1⟩):=by
 rw[AQ rfl,Y9]
 have iI:([64,65].any (·==(o:Int)))=f:=by
  rw[<-bD,Bool.eq_iff_iff]
  simp only[List.any_cons,List.any_nil,Jj,EH,zW,lH]
  omega
 rcases f with _|_
 .by_cases h:o<176
  .have bH:¬(176:Int)<=o:=by omega
   simp only[↓je,↓yr,↓wC,↓KJ,↓kr,↓ku,↓p8,↓bP,↓eM,↓ki,↓dN,Fz,C4,iI,nL,↓reduceIte,bH,vU]
  .have bH:(176:Int)<=o:=by omega
   have u0:¬((o:Nat):Int)<192:=by omega
   simp only[↓je,↓yr,↓wC,↓Au,↓KJ,↓kr,↓ku,↓p8,↓bP,↓eM,↓ki,↓dN,Fz,C4,iI,nL,↓reduceIte,bH,u0,qH,vU]
 .simp only[↓je,↓yr,↓wC,↓kr,↓ku,↓p8,↓bP,↓eM,↓ki,↓dN,Fz,C4,iI,↓reduceIte]
theorem S3 (az:aH[i]?=some (if w then 65 else 64)) (aE:aH[i+1]?=some c) (hz:aH.length<=100000):aJ (n+2) p 198 [.bytes aH,.int (i:Nat)] C=some (.tup [.int (i+2:Nat),.int (c:Nat),.bool w],⟨C.h,C.k+1⟩):=by
 have mW:(i:Nat)+2=((i+2:Nat):Int):=rfl
 rw[AQ rfl,Y_]
 rcases w with _|_
 .have bk:([64,65].any (·==((64:Nat):Int)))=true:=by decide
  have bK:(((64:Nat):Int)=65)=False:=by simp
  simp only[↓je,↓Av,↓yr,↓QX,↓FY,↓FZ,↓kr,↓ku,↓p8,↓ak,↓bP,↓dF,↓eM,↓aU,↓b_,↓ki,↓aV,↓bC,↓b7,↓dN,Kl,yS az hz,C4,SZ aE hz,kD,mW,nL,↓reduceIte,bk,bK,vU]
 .have bk:([64,65].any (·==((65:Nat):Int)))=true:=by decide
  have bK:(((65:Nat):Int)=65)=True:=by simp
  simp only[↓je,↓Av,↓yr,↓QX,↓FY,↓FZ,↓kr,↓ku,↓p8,↓ak,↓bP,↓dF,↓eM,↓aU,↓b_,↓ki,↓aV,↓bC,↓b7,↓dN,Kl,yS az hz,C4,SZ aE hz,kD,mW,↓reduceIte,bk,bK,qH]
theorem agc (Z:c4 N (k::p)) (az:aH[i]?=some 64) (aE:aH[i+1]?=some c) (aI:i+2+c<=aH.length) (hz:aH.length<=100000):
  aJ (n+3) p 205 [.bytes aH,.int (i:Nat)] ⟨aq N G B,k⟩=some (.tup [.ref (1::k::p),.int ((i+2+c:Nat):Int)],⟨aq N (G.set (1::k::p) (.list (((aH.take (i+2+c)).drop (i+2)).map bZ))) B,k+1⟩):=by
 have agx:=λC=>S3 (n:=n) (p:=k::p) (C:=C) (w:=false) (by simpa using az) aE hz
 have j3:∀q x,fk q .Mult (.int 1) (.int x)=ai (.int (1*x)):=λq x=>Fq (sY (by decide) (by decide))
 have fN:(i+2:Nat)+1*c=((i+2+c:Nat):Int):=by omega
 have pe:(i+2:Nat)+(c:Nat)=((i+2+c:Nat):Int):=by omega
 have g:¬((aH.length:Nat):Int)<((i+2+c:Nat):Int):=by omega
 have mz:∀q C,slice q (.bytes aH) (.int ((i+2:Nat):Int)) (.int ((i+2+c:Nat):Int)) .none C=some (.bytes ((aH.take (i+2+c)).drop (i+2)),C):=λq C=>by
  have iI:∀a b,slice q (.bytes aH) (.int a) (.int b) .none=if decide (0<=a)&&decide (a<=b)&&decide (b<=aH.length)&&decide (aH.length<=100000)then ai (.bytes ((aH.take b.toNat).drop a.toNat))else no:=λU U=>rfl
  have bk:(decide ((0:Int)<=((i+2:Nat):Int))&&decide (((i+2:Nat):Int)<=((i+2+c:Nat):Int))&&decide (((i+2+c:Nat):Int)<=(aH.length:Nat))&&decide (aH.length<=100000))=true:=by simp;omega
  rw[iI,bk,bT rfl,Int.toNat_natCast,Int.toNat_natCast];rfl
 have ahw:∀x,jk (k::p) "list" [.bytes ((aH.take (i+2+c)).drop (i+2))] ⟨aq N G B,x⟩=some (.ref (x::k::p),⟨aq N (G.set (x::k::p) (.list (((aH.take (i+2+c)).drop (i+2)).map bZ))) B,x+1⟩):=λx=>by
  have iI:∀l:List Nat,jk (k::p) "list" [.bytes l]=if decide (l.length<=100000)then new (k::p) (.list (l.map λb:Nat=>.int b))else no:=λU=>rfl
  have bk:decide (((aH.take (i+2+c)).drop (i+2)).length<=100000)=true:=by
   rw[lH,Jd,BY];omega
  rw[iI,bk]
  simp only[jW,new,rZ Z]
 rw[vc rfl,J4]
 simp only[↓je,↓tT,↓Av,↓abA,↓yr,↓wC,↓FY,↓KL,↓kr,↓ku,↓tU,↓CC,↓ak,↓fN,↓bh,↓bP,↓eM,↓pL,↓aU,↓b_,↓ck,↓bC,↓b7,↓dN,FA,agx,j3,pe,G7 _ hz,g,mz,ahw,nL,↓reduceIte,vU,Bool.not_false]
end
noncomputable def BL (h l:Nat):Int:=if 32768<=((h:Nat):Int)*256+(l:Nat)then((h:Nat):Int)*256+(l:Nat) -65536 else((h:Nat):Int)*256+(l:Nat)
noncomputable def Nm (aH:List Nat) (i c:Nat) (q:ay) (u:I) (v:I):aL:=[(("code":Str),.bytes aH),(("at":Str),.int (i:Nat)),(("begin":Str),.int ((i+2:Nat):Int)),(("many":Str),.int (c:Nat)),(("is_words":Str),.bool true),(("size":Str),.int 2),(("found":Str),.ref (1::q)),(("index":Str),u),(("word":Str),v)]
section
variable {N:fy} {G:bl} {B:fF}
theorem Yb {q r:ay} (aQ:N.g r=none) (cO:G r=some (.list aa)) (hz:aa.length<1000):builtin q "list.append" [.ref r,v] ⟨aq N G B,x⟩=some (.none,⟨aq N (G.set r (.list (aa++[v]))) B,x⟩):=by
 have bk:aq N G B r=some (.list aa):=(lS aQ).trans cO
 have bK:decide (aa.length<100000)=true:=by simp;omega
 show Y (obj r) _ _=_
 simp only[Y,obj,jb,bk,bK,jW,upd,ai,Ur aQ]
theorem aia {r:ay} (aQ:N.g r=none) (cO:G r=some (.list aa)):i0 (.ref r) "append" ⟨aq N G B,x⟩=some (.bi "list.append",⟨aq N G B,x⟩):=by
 have bk:aq N G B r=some (.list aa):=(lS aQ).trans cO
 unfold i0;simp only[Y,obj,bk];rfl
theorem alG (j):g8 (.eo 0 (aC:Nat)) j C=some (((List.range aC).map λj:Nat=>I.int ((0:Int)+(j:Nat)))[j]?,C):=by
 rw[jI]
 by_cases h:j<aC
 .rw[Q.Nt h,z0 h];rfl
 .rw[sd (by rw[uB];exact BZ h)]
  show some (if decide ((0:Int)+(j:Nat)<(aC:Nat))then _ else _,C)=_
  rw[BR,bX (λz=>h (Int.ofNat_lt.mp (kJ z)))];rfl
theorem anK (ns:List Int) (c):(List.range c).foldl (λU j=>ns.take (j+1)) []=ns.take c:=by
 induction c with
 |zero=>rfl
 |succ c=>rw[Jf,I9];rfl
theorem idx:((i:Nat):Int)+2*((0:Int)+(j:Nat))=((i+2*j:Nat):Int):=by rw[BR];rfl
theorem aoH (Z:c4 N (k::p)) {c j a l:Nat} {ns:List Int} (hz:aH.length<=100000) (aW:j<900) (az:aH[i+2+2*j]?=some a) (aE:aH[i+2+2*j+1]?=some l) (b8:ns[j]?=some (BL a l)):
  c5 (aJ (n+2)) 93 (aA 24).sc (k::p) G4 (Nm aH i c (k::p) (.int ((0:Int)+(j:Nat))) v) au ⟨aq N (G.set (1::k::p) (.list ((ns.take j).map I.int))) B,yX⟩=au (Nm aH i c (k::p) (.int ((0:Int)+(j:Nat))) (.int (((a:Nat):Int)*256+(l:Nat)))) ⟨aq N (G.set (1::k::p) (.list ((ns.take (j+1)).map I.int))) B,yX⟩:=by
 have fc:N.g (1::k::p)=none:=qk Z 1
 have Co:builtin (k::p) "list.append" [.ref (1::k::p),.int (BL a l)] ⟨aq N (G.set (1::k::p) (.list ((ns.take j).map I.int))) B,yX⟩=some (.none,⟨aq N (G.set (1::k::p) (.list ((ns.take (j+1)).map I.int))) B,yX⟩):=by
  rw[Yb fc cP (by rw[fD,BY];exact dg (Nat.min_le_left ..) (fV aW (by decide))),xy,EE,b8,qd];rfl
 have sO:∀{C},item (.bytes aH) (.int (((i+2:Nat):Int)+2*((0:Int)+(j:Nat)))) C=some (.int (a:Nat),C):=λ{C}=>by rw[idx];exact yS az hz
 have yM:∀{C},item (.bytes aH) (.int (((i+2:Nat):Int)+2*((0:Int)+(j:Nat))+1)) C=some (.int (l:Nat),C):=λ{C}=>by rw[idx];exact yS aE hz
 have iB:∀{q C} {x:Int},fk q .Mult (.int 2) (.int x) C=some (.int (2*x),C):=Q.o_ (sY (by decide) (by decide))
 have ahS:∀{q C} {x:Int},fk q .Mult (.int x) (.int 256) C=some (.int (x*256),C):=Q.o_ (sZ (by decide) (by decide))
 refine Q.iF (Q.agK ..) ?_
 refine Q.bx iB<|Q.bx sO<|Q.bx ahS<|Q.bx iB<|Q.bx yM<|Q.bx (aia fc cP) ?_
 unfold BL at Co
 by_cases aP:32768<=((a:Nat):Int)*256+(l:Nat)
 .rw[bT aP]at Co
  exact Q.bx (Q.pT aP)<|Q.bx (Q.iy Co)<|Q.fin
 .rw[bX aP]at Co
  exact Q.bx (Q.nV aP)<|Q.bx (Q.iy Co)<|Q.fin
theorem agd (Z:c4 N (k::p)) {c:Nat} {ns:List Int} (az:aH[i]?=some 65) (aE:aH[i+1]?=some c) (aI:i+2+2*c<=aH.length) (hz:aH.length<=100000) (aN:ns.length=c) (Gy:c<900) (eL:∀j,j<c->∃h l,aH[i+2+2*j]?=some h/\aH[i+2+2*j+1]?=some l/\ns[j]?=some (BL h l)):
  aJ (n+3) p 205 [.bytes aH,.int (i:Nat)] ⟨aq N G B,k⟩=some (.tup [.ref (1::k::p),.int ((i+2+2*c:Nat):Int)],⟨aq N (G.set (1::k::p) (.list (ns.map I.int))) B,k+1⟩):=by
 have iB:∀{q C} {x:Int},fk q .Mult (.int 2) (.int x) C=some (.int (2*x),C):=Q.o_ (sY (by decide) (by decide))
 have fQ:c<1000:=fV Gy (by decide)
 refine(Q.Go (R:=Nm aH i c (k::p)) (af:=λl yX=>⟨aq N (G.set (1::k::p) (.list (l.map I.int))) B,yX⟩) (f:=λU j=>ns.take (j+1)) (cZ:=λj l=>l=ns.take j) (c:=0) (aC:=List.range c) (gr:=λv J au=>asg (aJ (n+2)) 93 (aA 24).sc (k::p) 3 Hq v J au) (K:=Hg (aJ (n+2)) (k::p)) (λt k j=>alG j) (λU U U U=>ahH ..)
  (λv l j yX au h g=>by
   rw[uB]at h
   rw[OU,g]
   exact(eL j h).elim λa e=>e.elim λb e=>⟨_,aoH (n:=n) Z hz (fV h Gy) e.1 e.2.1 e.2.2⟩)
  (λl j h g=>by rw[OU]) c [] 2 .undef .undef 1000 0 rfl ((mH _).trans List.length_range.symm) fQ).elim λig e=>e.elim λfU e=>?_
 rw[xR,anK,List.take_of_length_le (ng aN)]at e
 refine Q.qh rfl (Q.J4 _ _ _ _) ?_
 refine Q.B (S3 (w:=true) az aE hz)<|Q.B iB<|Q.B (Q.iy (G7 _ hz))<|Q.B (Q.uZ (Int.not_lt.mpr (Int.ofNat_le.mpr aI)))<|Q.B (cJ (λh=>some (I.ref (1::k::p),bL.mk h 2)) (rZ Z))<|Q.B (Q.fR (qy _ c fQ _))<|Q.B (Q.nj (sS c fQ _) (e.trans (Q.iF (Q.ahh ..) (Q.bx iB rfl)))) rfl
end
section
variable {N:fy} {G:bl} {B:fF} {aH:List Nat}
noncomputable def Nn (N:fy) (i o:Nat) (r:ay) (u:I):aL:=[("self",.ref (N.f .mT)),("place",.ref (N.f .place)),("begin",.int (i:Nat)),("op",.int (o:Nat)),("numbers",.ref r),("number",u)]
theorem ale (ns):∀t:T,ns.foldl (λt x=>t.dw (t.told++[x])) t=t.dw (t.told++ns):=by
 induction ns with
 |nil=>intro t;rw[vR];rfl
 |cons x ns ih=>intro t;exact(ih _).trans (cJ t.dw (nM t.told [x] ns))
theorem alg (Z:c4 N (k::p)) {ns:List Int} {r:ay} (aQ:N.g r=none) (cO:G r=some (.list (ns.map I.int))) (o) (t) (bq) (w) (hz:t.told.length+ns.length<64):
  ∃ig,gP (λJ au=>c5 (aJ (n+1)) 91 (cU 35 2).sc (k::p) L_ J au) (λv J au=>asg (aJ (n+1)) 91 (cU 35 2).sc (k::p) 3 Mz v J au) (.ref r) (Hh (aJ (n+1)) (k::p)) 1000 0 (Nn N i o r w) ⟨aq N G {B with t:=t},bq⟩=
    Hh (aJ (n+1)) (k::p) (Nn N i o r ig) ⟨aq N G {B with t:=t.dw (t.told++ns)},bq+ns.length⟩:=
 (Q.Go (R:=λu U=>Nn N i o r u) (af:=λt k=>⟨aq N G {B with t:=t},k⟩) (f:=λt x=>t.dw (t.told++[x])) (cZ:=λj z=>z.told.length=t.told.length+j) (λt k j=>Dy ((lS aQ).trans cO) j) (λU U U U=>ahI ..)
  (λv z j yX au h g=>⟨(),Q.iF (Q.agM ..)<|Q.bx W6<|Q.bx gC<|Q.bx I3<|Q.bx (Q.c_ rfl (S2 (Z.sub _) (fV (g▸rB h _) hz) _))<|Q.fin⟩)
  (λz j h g=>by show(z.told++[ns[j]]).length=_;rw[gO,g];rfl) ns.length t bq w () 1000 0 rfl (mH _) (fV (dg (uD ..) hz) (by decide))).elim λig e=>e.elim λU e=>⟨ig,by rw[xR,ale,Nat.one_mul]at e;exact e⟩
structure z8 (B:fF) (aH:List Nat) (i:Nat):Prop where
 code:B.code=aH
 pc:B.pc=(i:Nat)
 size:aH.length<=100000
theorem G8 (q) (hz:aH.length<=100000) (C):builtin q "len" [.bytes aH] C=some (.int (aH.length:Nat),C):=G7 q hz
theorem LJ {r:ay} (aQ:h r=some (.list aa)):jP (.ref r) ⟨h,x⟩=some ((),⟨h,x⟩):=by
 show Y (obj r) _ _=_
 simp only[Y,obj,aQ,ai]
theorem not_le (h:aH[i]?=some v):¬((aH.length:Nat):Int)<=((i:Nat):Int):=λz=>Nat.not_lt.mpr (Int.ofNat_le.mp z) (List.getElem?_eq_some_iff.mp h).1
theorem agn (Z:c4 N (k::p)) (A:z8 B aH i) {w:Bool} {ns:List Int} (az:aH[i]?=some (if w then 65 else 64))
  (cA:∀bq,∃bu,aJ (n+3) (k::p) 205 [.bytes aH,.int (i:Nat)] ⟨aq N G B,bq⟩=some (.tup [.ref (1::bq::k::p),.int ((j:Nat):Int)],⟨aq N bu B,bq+1⟩)/\bu (1::bq::k::p)=some (.list (ns.map I.int))/\dz (k::p) G bu) (aI:B.t.told.length+ns.length<60):
  ∃bu,aJ (n+4) p 255 [.ref (N.f .mT)] ⟨aq N G B,k⟩=some (.none,⟨aq N bu {B with pc:=(j:Nat),t:=B.t.dw (B.t.told++ns)},k+1⟩)/\dz (k::p) G bu:=by
 refine(cA 1).elim λbu e=>⟨bu,?_,e.2.2⟩
 have m_:∀{k},fB (.ref (N.f .place)) "at" ⟨aq N G B,k⟩=some (.int (i:Nat),⟨aq N G B,k⟩):=A.pc▸I2
 have vO:∀{k},fB (.ref (N.f .place)) "code" ⟨aq N G B,k⟩=some (.bytes aH,⟨aq N G B,k⟩):=A.code▸I1
 have fc:N.g (1::1::k::p)=none:=qk (Z.sub 1) 1
 refine(alg (n:=n+2) (B:={B with pc:=(j:Nat)}) (i:=i) Z fc e.2.1 (if w then 65 else 64) B.t 2 .undef (fV aI (by decide))).elim λig C1=>?_
 refine Q.qh rfl (Q.PN _ _ _) ?_
 exact Q.B I0<|Q.B m_<|Q.B vO<|Q.B (Q.iy (G8 _ A.size _))<|Q.B (Q.nV (not_le az))<|Q.B m_<|Q.B vO<|Q.B (yS az A.size)<|Q.B (SW (if w then 65 else 64) true (by cases w<;>rfl) (by cases w<;>decide))<|Q.B vO<|Q.B e.1<|Q.B Xc<|Q.B (Q.nj (LJ ((lS fc).trans e.2.1)) (C1.trans (eZ (Q.ahj ..) _)))<|rfl
noncomputable def xh (o:Nat):Bool:=decide (o<176\/192<=o)&&!decide (o=64\/o=65)&&!([(88:Int),27,89].any (·==(o:Int)))&&!([(28:Int),120,121].any (·==(o:Int)))&&!([(43:Int),42,44,137,45].any (·==(o:Int)))
theorem aj2 (bw:xh o=true) {P:Prop} (k:(o<176\/192<=o)->decide (o=64\/o=65)=false->[(88:Int),27,89].any (·==(o:Int))=false->[(28:Int),120,121].any (·==(o:Int))=false->[(43:Int),42,44,137,45].any (·==(o:Int))=false->P):P:=by
 have az:=Bool.and_eq_true_iff.mp bw
 have aE:=Bool.and_eq_true_iff.mp az.1
 have b8:=Bool.and_eq_true_iff.mp aE.1
 have cH:=Bool.and_eq_true_iff.mp b8.1
 exact k (kJ cH.1) ((EF _).mp cH.2) ((EF _).mp b8.2) ((EF _).mp aE.2) ((EF _).mp az.2)
theorem SA (h:[b,c,d].any (·==a)=false):Q.dK (dX .In (.int a) (.tup [.int b,.int c,.int d])) C=some (.bool false,C):=Q.iC (cJ (λt=>some (t,C)) h)
theorem afa (h:[b,c,d,e,f].any (·==a)=false):Q.dK (dX .In (.int a) (.tup [.int b,.int c,.int d,.int e,.int f])) C=some (.bool false,C):=Q.iC (cJ (λt=>some (t,C)) h)
theorem aii:r3 [a,b,c,d,e] C=some (.tup [a,b,c,d,e],C):=rfl
theorem afc {o:Nat} {af:fF} (aY:q_.lookup (o:Int)=some v):Q.dK (dX .In (.int (o:Nat)) (.ref (N.f .ops))) ⟨aq N G af,x⟩=some (.bool true,⟨aq N G af,x⟩):=Q.iC (by
 show Y (obj _) _ _=_
 simp only[Y,obj,wg,(g7 rfl:aq N G af (N.f .ops)=some (.cB q_)),aY,ai,Option.isSome_some])
theorem S7 (Z:c4 N (k::p)) (A:z8 B aH i) {o:Nat} {a:Addr} (az:aH[i]?=some o) (bw:xh o=true) (aY:q_.lookup (o:Int)=some (.at a)) (rQ:jc.lookup a=none) {bu:bl}
  (cA:∀bq,bq=1->aJ (n+7) (k::p) a [.ref (N.f .work),.int (o:Nat)] ⟨aq N G {B with pc:=((i+1:Nat):Int)},bq⟩=some (.none,⟨aq N bu bU,bq+1⟩)):
  aJ (n+8) p 255 [.ref (N.f .mT)] ⟨aq N G B,k⟩=some (.none,⟨aq N bu bU,k+1⟩):=by
 have m_:∀{k},fB (.ref (N.f .place)) "at" ⟨aq N G B,k⟩=some (.int (i:Nat),⟨aq N G B,k⟩):=A.pc▸I2
 have vO:∀{k},fB (.ref (N.f .place)) "code" ⟨aq N G B,k⟩=some (.bytes aH,⟨aq N G B,k⟩):=A.code▸I1
 refine aj2 bw λlA kR qq qs zh=>?_
 refine Q.qh rfl (Q.PN _ _ _) ?_
 exact Q.B I0<|Q.B m_<|Q.B vO<|Q.B (Q.iy (G8 _ A.size _))<|Q.B (Q.nV (not_le az))<|Q.B m_<|Q.B vO<|Q.B (yS az A.size)<|Q.B (SW o false kR lA)<|Q.B Xc<|Q.B (SA qq)<|Q.B (SA qs)<|Q.B aii<|Q.B (afa zh)<|Q.B W7<|Q.B (afc aY)<|Q.B W7<|Q.B (GS (g7 rfl) aY)<|Q.B W6<|Q.B (Q.c_ rQ (cA 1 rfl))<|rfl
end
noncomputable def uh (ns:List Int):Bool:=ns.all λn=>decide (0<=n)&&decide (n<256)
noncomputable def rA (n:Int):List Nat:=[((n.fmod 65536).fdiv 256).toNat,(n.fmod 256).toNat]
noncomputable def gz (ns:List Int):List Nat:=if uh ns then[64,ns.length]++ns.map Int.toNat else[65,ns.length]++ns.flatMap rA
section
variable {N:fy} {G:bl} {B:fF}
theorem SV (Z:c4 N (k::p)) (A:z8 B aH i) (aj:i<=aH.length):aJ (n+1) p 149 [.ref (N.f .place)] ⟨aq N G B,k⟩=some (.bool (decide (i=aH.length)),⟨aq N G B,k+1⟩):=by
 obtain⟨nt,iW,pM⟩:=A
 have Hz:iK (k::p) []=new (k::p) (.list []):=rfl
 have cmp:∀x,dX .Eq (.ref (N.f .calls)) (.ref (0::k::p)) ⟨aq N (G.set (0::k::p) (.list [])) B,x⟩=some (true,⟨aq N (G.set (0::k::p) (.list [])) B,x⟩):=λx=>
  KV (l:=[]) (g7 rfl) ((lS (qk Z 0)).trans cP)
 rw[AQ rfl,Y7]
 by_cases h:i=aH.length
 .have bH:(i:Nat)=aH.length:=by omega
  simp only[↓qi,↓wC,↓FZ,↓kr,↓ku,↓F0,↓tU,↓p8,↓bh,↓ki,↓a_,↓ck,↓dN,Kh,↓I1,↓I2,↓aoW,nt,iW,G8 _ pM,h,qH,↓reduceIte,Hz,rZ Z,cmp,DQ Z,vv]
 .have bH:¬((i:Nat):Int)=aH.length:=by omega
  simp only[↓qi,↓wC,↓FZ,↓kr,↓ku,↓tU,↓p8,↓bh,↓ki,↓a_,↓ck,↓dN,Kh,↓I1,↓I2,nt,iW,G8 _ pM,h,bH,vU,nL,↓reduceIte]
noncomputable def wc (N:fy) (n:Nat) (q:ay) (dY:Nat):aD I:=uw (λJ=>gv (aJ n) 98 (cU 35 1).sc q J My) (λJ k=>c5 (aJ n) 98 (cU 35 1).sc q L9 J k) (Ml (aJ n) q) dY [("self",.ref (N.f .mT))]
theorem aoB {q:ay} (Z:c4 N q) (A:z8 B aH i) (aj:i<aH.length) (aR:B.steps<9000)
  (aeM:aJ (n+1) q 255 [.ref (N.f .mT)] ⟨aq N G {B with steps:=B.steps+1},bq+1⟩=some (.none,⟨aq N bu bU,bq+2⟩)):wc N (n+1) q (dY+1) ⟨aq N G B,bq⟩=wc N (n+1) q dY ⟨aq N bu bU,bq+2⟩:=by
 have iD:=SV (n:=n) (k:=bq) (G:=G) (Z.sub _) A (by omega)
 have fJ:decide (i=aH.length)=false:=by simp;omega
 have g5:¬10000<=B.steps:=by omega
 unfold wc
 conv=>lhs;unfold uw
 simp only[↓qi,↓wC,↓FY,↓abB,↓kr,↓ku,↓ak,↓aU,↓b_,↓a_,↓er,↓cQ,↓b7,↓eH,TV,agL,↓eU,↓I0,↓aoV,↓W8,↓W9,↓aoX,↓ao2,iD,fJ,g5,Bool.not_false,nL,↓reduceIte,vU,aeM,t7]
theorem aoA {q:ay} (Z:c4 N q) (A:z8 B aH aH.length):wc N (n+1) q (dY+1) ⟨aq N G B,bq⟩=some (.int B.steps,⟨aq N G B,bq+1⟩):=by
 have iD:=SV (n:=n) (k:=bq) (G:=G) (Z.sub _) A (by omega)
 have fJ:decide (aH.length=aH.length)=true:=by simp
 unfold wc uw
 simp only[↓qi,↓wC,↓kr,↓ku,↓a_,↓cQ,TV,ahi,↓eU,↓I0,↓W8,↓W9,iD,qH,Ji,nL,↓reduceIte]
theorem agj (q:ay) (Z:q=k::p):aJ (n+2) p 248 [.ref (N.f .mT)] ⟨aq N G B,k⟩=match wc N (n+1) q 1000 ⟨aq N G B,0⟩with
  |some (v,aT)=>some (v,⟨aT.h,k+1⟩)
  |none=>none:=by
 subst Z
 rw[vc rfl,Zc]
 rfl
structure T.Ok (t:T) m:Prop where
 fit:t.cG m
 bd:t.lZ
 code:l6 t.round
 d4:t.cI<m
 gq:t.cT<m
 gW:t.dO<m
theorem T.Ok.dw {t:T} (h:t.Ok m) (l):(t.dw l).Ok m:=⟨h.fit.dw l,h.bd,h.code,h.d4,h.gq,h.gW⟩
inductive JE (N:fy) q c bq (G:bl) r:Prop
 |mk p7 (a:G r=some (.inst 525 p7)) (b:G p7=some (.attrs [("period",.int (gB c).1),("phase",.int (gB c).2.1),("threshold",.int (gB c).2.2)])) (jx:N.g r=none) (d:N.g p7=none) (e:∀j,bq<=j->¬(j::q)<:+r/\¬(j::q)<:+p7)
structure lM (N:fy) q aH (ao:List Nat) m i (t:T) l (c:Nat) (G:bl) (B:fF) bq:Prop where
 at_:z8 B aH i
 tt:B.t=t
 loop:B.loop=l
 ends:B.ends=ao.map cY
 ao:uI ao m
 steps:B.steps<=c
 ok:t.Ok m
 gc:JE N q t.round bq G B.gc
section
variable {ao:List Nat}
theorem lM.qS (M:lM N q aH ao m i t l c G B bq):qS N G B.gc B.t.round:=
 M.tt▸M.gc.rec λp7 az aE b8 cH U=>⟨M.ok.code,p7,az,aE,b8,cH⟩
theorem lM.VI (M:lM N q aH ao m i t l c G B bq) (aW:bq<=j) (cO:dz (j::q) G bu):JE N q t.round (j+1) bu B.gc:=
 M.gc.rec λp7 az aE b8 cH kB=>⟨p7,(cO _ (kB j aW).1).trans az,(cO _ (kB j aW).2).trans aE,b8,cH,λSR GD=>kB SR (d5 aW (sq GD))⟩
end
end
theorem RG (x:Int):x.fmod 256=x%256:=xO x (by decide)
theorem RH (x:Int):x.fmod 65536=x%65536:=xO x (by decide)
theorem Rz (x:Int):x.fdiv 256=x/256:=EN x (by decide)
theorem aoy (az:-32768<=x) (aE:x<32768):BL ((x.fmod 65536).fdiv 256).toNat (x.fmod 256).toNat=x:=by
 unfold BL
 rw[RG,RH,Rz,I5 (Int.ediv_nonneg (Jg _ (by decide)) (by decide)),I5 (Jg _ (by decide)),<-Int.emod_emod_of_dvd x (show(256:Int) ∣65536 by decide),Int.mul_comm,Int.mul_ediv_add_emod]
 by_cases h:0<=x
 .rw[OV h (lX aE (by decide)),bX (Int.not_le.mpr aE)]
 .have e:x%65536=x+65536:=by rw[<-Int.add_emod_right,OV (zU (by decide) (OP az 65536)) (Int.add_lt_of_lt_sub_right (Int.lt_of_not_ge h))]
  rw[e,bT (zU (by decide) (OP az 65536)),Int.add_sub_cancel]
theorem RE (ns:List Int):∀j (h:j<ns.length),(ns.flatMap rA)[2*j]?=some (((ns[j]).fmod 65536).fdiv 256).toNat/\(ns.flatMap rA)[2*j+1]?=some ((ns[j]).fmod 256).toNat:=by
 induction ns with
 |nil=>exactλj h=>absurd h (rD _)
 |cons x ns ih=>
  intro j h
  induction j with
  |zero=>exact⟨rfl,rfl⟩
  |succ j=>exact ih j (zY h)
theorem RD (ns:List Int):(ns.flatMap rA).length=2*ns.length:=by
 induction ns with
 |nil=>rfl
 |cons x ns ih=>exact cJ (·+2) ih
theorem Vn (ns:List Int):(gz ns).length=if uh ns then 2+ns.length else 2+2*ns.length:=by
 unfold gz
 split
 .simp only[gO,List.length_cons,List.length_nil,fD]
 .simp only[gO,List.length_cons,List.length_nil,RD]
section
variable {N:fy} {G:bl} {B:fF} {aH:List Nat}
theorem uO (h:aH.drop i=l) (j):aH[i+j]?=l[j]?:=by rw[<-h,List.getElem?_drop]
theorem Pw {A R:List Nat} {j x:Nat} (h:A[j]?=some x):(A++R)[j]?=some x:=by rw[List.getElem?_append_left (List.getElem?_eq_some_iff.mp h).1,h]
theorem Rg {A R:List Nat} (h:aH.drop i=A++R) (jh:0<A.length):i+A.length<=aH.length:=by
 have e:=cJ List.length h
 rw[Jd,gO]at e
 have aj:i<=aH.length:=sq (Nat.lt_of_sub_pos (e▸lW jh (gQ ..)))
 rw[tG]
 exact(Nat.le_sub_iff_add_le aj).mp (e▸gQ ..)
theorem amf {ns:List Int} (aR:uh ns=true):(ns.map Int.toNat).map bZ=ns.map I.int:=by
 rw[rF]
 exact List.map_congr_left λx bE=>cJ I.int (I5 (kJ (Bool.and_eq_true_iff.mp (List.all_eq_true.mp aR x bE)).1))
def JC (N:fy) (G:bl) (B:fF) (n k:Nat) (p:ay) (aH:List Nat) (i j:Nat) (ns:List Int) (bq:Nat):Prop:=∃bu,aJ (n+3) (k::p) 205 [.bytes aH,.int (i:Nat)] ⟨aq N G B,bq⟩=some (.tup [.ref (1::bq::k::p),.int ((j:Nat):Int)],⟨aq N bu B,bq+1⟩)/\bu (1::bq::k::p)=some (.list (ns.map I.int))/\dz (k::p) G bu
theorem alh (Z:c4 N (k::p)) {ns:List Int} (c8:aH.drop i=(64::ns.length::ns.map Int.toNat)++jT) (hz:aH.length<=100000) (aR:uh ns=true) (bq):JC N G B n k p aH i (i+(2+ns.length)) ns bq:=by
 have aI:=Rg c8 (BS _)
 rw[List.length_cons,List.length_cons,fD,rE,tG _ 2,<-rE]at aI
 have aE:aH.drop (i+2)=ns.map Int.toNat++jT:=by rw[<-BO,c8];rfl
 have mz:(aH.take (i+2+ns.length)).drop (i+2)=ns.map Int.toNat:=by
  rw[List.drop_take,aE,OJ,<-fD (f:=Int.toNat),List.take_left]
 have nZ:=agc (n:=n) (p:=k::p) (k:=bq) (N:=N) (G:=G) (B:=B) (Z.sub bq) (i:=i) (aH:=aH) (c:=ns.length) (uO c8 0) (uO c8 1) aI hz
 rw[mz,amf aR]at nZ
 exact⟨_,rE ..▸nZ,cP,(dz.refl _ _).set ⟨[1,bq],rfl⟩ _⟩
theorem ali (Z:c4 N (k::p)) {ns:List Int} {jT:List Nat} (c8:aH.drop i=(65::ns.length::ns.flatMap rA)++jT) (hz:aH.length<=100000) (aI:ns.length<=10) (aQ:∀x∈ns,-32768<=x/\x<32768) (bq):JC N G B n k p aH i (i+(2+2*ns.length)) ns bq:=by
 have GF:=Rg c8 (BS _)
 rw[List.length_cons,List.length_cons,RD,rE,tG _ 2,<-rE]at GF
 have aE:aH.drop (i+2)=ns.flatMap rA++jT:=by rw[<-BO,c8];rfl
 have nZ:=agd (n:=n) (p:=k::p) (k:=bq) (N:=N) (G:=G) (B:=B) (Z.sub bq) (i:=i) (aH:=aH) (c:=ns.length) (ns:=ns) (uO c8 0) (uO c8 1) GF hz rfl (dg aI (by decide)) λj aW=>
  ⟨_,_,(uO aE (2*j)).trans (Pw (RE ns j aW).1),(uO aE (2*j+1)).trans (Pw (RE ns j aW).2),(h7 aW).trans (cJ some (aoy (aQ _ (sf aW)).1 (aQ _ (sf aW)).2).symm)⟩
 exact⟨_,rE ..▸nZ,cP,(dz.refl _ _).set ⟨[1,bq],rfl⟩ _⟩
theorem alf {ns:List Int} {P:List Nat->Nat->Prop} (aR:uh ns=true->P (64::ns.length::ns.map Int.toNat) (2+ns.length)) (eL:P (65::ns.length::ns.flatMap rA) (2+2*ns.length)):P (gz ns) (gz ns).length:=by
 rw[Vn]
 unfold gz
 by_cases h:uh ns=true
 .rw[bT h,bT h];exact aR h
 .rw[bX h,bX h];exact eL
section
variable {t:T}
def Cj (N:fy) (n:Nat) (q:ay) (d:Nat) (s bW:bL):Prop:=∀dY,wc N (n+9) q (dY+d) s=wc N (n+9) q dY bW
inductive lJ (N:fy) (n:Nat) (q:ay) (aH ao:List Nat) (m i:Nat) (t:T) (l:Int) (c d:Nat) (s:bL):Prop
 |mk (bu:bl) (bU:fF) (oC:Nat) (a:Cj N n q d s ⟨aq N bu bU,oC⟩) (b:lM N q aH ao m i t l c bu bU oC)
theorem amE {s:Int} (h:s<=(c:Nat)):s+1<=((c+1:Nat):Int):=OP h 1
theorem MD (fm:c4 N q) (M:lM N q aH ao m i t l c G B bq) (aj:i<aH.length) (aN:c<8000) {bu:bl} (e:aJ (n+9) q 255 [.ref (N.f .mT)] ⟨aq N G {B with steps:=B.steps+1},bq+1⟩=some (.none,⟨aq N bu bU,bq+2⟩))
  (gx:bU.code=B.code) (iX:bU.pc=(j:Nat)) (jf:bU.t=f9) (kN:bU.loop=fX) (tY:bU.ends=B.ends) (wN:bU.steps=B.steps+1) (ok:f9.Ok m) (gc:JE N q f9.round (bq+2) bu bU.gc):lJ N n q aH ao m j f9 fX (c+1) 1 ⟨aq N G B,bq⟩:=
 ⟨bu,bU,bq+2,λdY=>aoB (n:=n+8) fm M.at_ aj (Int.lt_of_le_of_lt M.steps (Int.ofNat_lt.mpr (fV aN (by decide)))) e,⟨gx.trans M.at_.code,iX,M.at_.size⟩,jf,kN,tY.trans M.ends,M.ao,wN.symm▸amE M.steps,ok,gc⟩
theorem ahZ (fm:c4 N q) (M:lM N q aH ao m i t l c G B bq) {ns:List Int} {jT:List Nat} (c8:aH.drop i=gz ns++jT) (aI:ns.length<=10) (aQ:∀x∈ns,-32768<=x/\x<32768) (bY:t.told.length+ns.length<60) (aN:c<8000):
  lJ N n q aH ao m (i+(gz ns).length) (t.dw (t.told++ns)) l (c+1) 1 ⟨aq N G B,bq⟩:=by
 have key:∀w:Bool,aH[i]?=some (if w then 65 else 64)->∀j:Nat,(∀oC,JC N G {B with steps:=B.steps+1} (n+5) (bq+1) q aH i j ns oC)->lJ N n q aH ao m j (t.dw (t.told++ns)) l (c+1) 1 ⟨aq N G B,bq⟩:=λw az j cA=>
  (agn (n:=n+5) (p:=q) (k:=bq+1) (N:=N) (G:=G) (B:={B with steps:=B.steps+1}) (fm.sub _) ⟨M.at_.code,M.at_.pc,M.at_.size⟩ az cA (M.tt▸bY)).elim λbu e=>
   MD fm M (List.getElem?_eq_some_iff.mp az).1 aN e.1 rfl rfl (by rw[<-M.tt]) M.loop rfl rfl (M.ok.dw _) (M.VI (jV bq) e.2)
 revert c8
 exact alf (P:=λaC j=>aH.drop i=aC++jT->lJ N n q aH ao m (i+j) (t.dw (t.told++ns)) l (c+1) 1 ⟨aq N G B,bq⟩)
  (λaR c8=>key false (uO c8 0) _ λoC=>alh (fm.sub _) c8 M.at_.size aR oC)
  (λc8=>key true (uO c8 0) _ λoC=>ali (fm.sub _) c8 M.at_.size aI aQ oC)
theorem ahY (fm:c4 N q) (M:lM N q aH ao m i t l c G B bq) (az:aH[i]?=some o) (bw:xh o=true) (aY:q_.lookup (o:Int)=some (.at a)) (rQ:jc.lookup a=none) (aN:c<8000) (yJ:f9.Ok m) (sN:f9.round=t.round)
  (cA:∀k p B,c4 N (k::p)->B.t=t->B.loop=l->B.ends=ao.map cY->qS N G B.gc B.t.round->aJ (n+8) p a [.ref (N.f .work),.int (o:Nat)] ⟨aq N G B,k⟩=some (.none,⟨aq N G {B with t:=f9,loop:=fX},k+1⟩)):
  lJ N n q aH ao m (i+1) f9 fX (c+1) 1 ⟨aq N G B,bq⟩:=
 MD fm M (List.getElem?_eq_some_iff.mp az).1 aN (S7 (n:=n+1) (p:=q) (k:=bq+1) (N:=N) (G:=G) (B:={B with steps:=B.steps+1}) (fm.sub _) ⟨M.at_.code,M.at_.pc,M.at_.size⟩ az bw aY rQ λau U=>cA au ((bq+1)::q) _ ((fm.sub _).sub _) M.tt M.loop M.ends M.qS) rfl rfl rfl rfl rfl rfl yJ (sN.symm▸M.VI (jV bq) (dz.refl _ _))
theorem VO {o:Nat} (h:l6 (o:Int)):xh o=true/\q_.lookup (o:Int)=some (.at 1057):=by
 have g:∀x:Nat,(xh x=true/\q_.lookup (x:Int)=some (.at 1057))->(o:Int)=(x:Nat)->xh o=true/\q_.lookup (o:Int)=some (.at 1057):=λx bE e=>Int.ofNat.inj e▸bE
 exact h.elim (g 24 ⟨rfl,rfl⟩) λh=>h.elim (g 25 ⟨rfl,rfl⟩) λh=>h.elim (g 61 ⟨rfl,rfl⟩) λh=>h.elim (g 125 ⟨rfl,rfl⟩) λh=>h.elim (g 124 ⟨rfl,rfl⟩) (g 122 ⟨rfl,rfl⟩)
theorem MP (h:j≠k):¬(j::q)<:+(aC++k::q):=λz=>h (vS ((O0 z (List.suffix_append aC (k::q)) (fu _)).eq_of_length rfl)).1
theorem T.Ok.alE (h:t.Ok m) (aN:l6 c):({t with round:=c}:T).Ok m:=⟨⟨h.fit.now,h.fit.cF,h.fit.cD,h.fit.bf,h.fit.ia⟩,h.bd,aN,h.d4,h.gq,h.gW⟩
theorem ah0 (fm:c4 N q) (M:lM N q aH ao m i t l c G B bq) (az:aH[i]?=some o) (CX:l6 (o:Int)) (aN:c<8000):
  lJ N n q aH ao m (i+1) {t with round:=(o:Int)} l (c+1) 1 ⟨aq N G B,bq⟩:=by
 have Z:=((fm.sub (bq+1)).sub 1).sub 1
 refine(agi (n:=n+2) (p:=(bq+1)::q) (k:=1) (N:=N) (G:=G) (B:={B with steps:=B.steps+1,pc:=((i+1:Nat):Int)}) ((fm.sub _).sub _) (o:Int) CX).elim λbu e=>?_
 exact MD (bU:={B with steps:=B.steps+1,pc:=((i+1:Nat):Int),gc:=2::1::1::(bq+1)::q,t:={B.t with round:=(o:Int)}}) fm M (List.getElem?_eq_some_iff.mp az).1 aN (S7 (n:=n+1) (p:=q) (k:=bq+1) (N:=N) (G:=G) (B:={B with steps:=B.steps+1}) (fm.sub _) ⟨M.at_.code,M.at_.pc,M.at_.size⟩ az (VO CX).1 (VO CX).2 rfl λau bI=>bI.symm▸e.1) rfl rfl (by rw[<-M.tt]) M.loop rfl rfl (M.ok.alE CX)
  ⟨1::1::1::(bq+1)::q,e.2.1,e.2.2.1,qk Z _,qk Z _,λj aW=>⟨MP (aC:=[2,1,1]) (zV aW),MP (aC:=[1,1,1]) (zV aW)⟩⟩
end
end
inductive fT where
 |rX (i:Nat) (f:Bool)
 |qo (i c:Nat) (f:Bool)
 |mU (i g:Nat)
 |o9 (i c g:Nat)
 |r5 (i:Nat) (d:Int) (f:Bool)
 |ye (av:List Nat)
 |nX (av:List Nat)
 |zG (av:List Nat) (f:Bool)
 |zH (av:List Nat) (d:Int)
 |cL
 |round (c:Nat)
 |point (j i:Nat)
 |ji (f:Bool)
 |bf (c:Nat) (v:Int)
 |delta (i:Nat) (a:Int)
 |q0 (i:Nat) (f:Bool)
 |ic (j i:Nat)
noncomputable def oQ (f:Bool):Nat:=if f then 1 else 0
noncomputable def q7 (av:List Nat) (nums:List Int) (code:Nat):List Nat:=(if 1<av.length then gz [av.length]++[23]else[])++gz (av.map cY++nums)++[code]
noncomputable def fT.enc (t:T):fT->List Nat
 | .rX i f=>gz [cY i]++[46+oQ f]
 | .qo i c f=>gz [cY i,cY c]++[62+oQ f]
 | .mU i g=>gz [cY i]++[192+g]
 | .o9 i c g=>gz [cY i,cY c]++[224+g]
 | .r5 i d f=>gz [cY i,d]++[58+oQ f]
 | .ye av=>q7 av [] 60
 | .nX av=>q7 av [] 57
 | .zG av f=>q7 av [] (50+oQ f)
 | .zH av d=>q7 av [d] 56
 | .cL=>[oQ t.cL]
 | .round c=>[c]
 | .point j i=>gz [cY i]++[16+j]
 | .ji f=>[48+oQ f]
 | .bf c v=>gz [cY c,v]++[68]
 | .delta i a=>gz [a,cY i,1]++[93]
 | .q0 i f=>gz [cY i]++[70+oQ f]
 | .ic j i=>gz [cY j,cY i]++[73]
noncomputable def eF (g d:Nat):Bool:=decide (g/d%2=1)
noncomputable def fT.apply (ao:List Nat) (t:T):fT->T
 | .rX i f=>t.rX i f
 | .qo i c f=>t.qo i (t.bf.getD c 0) f
 | .mU i g=>t.mU i (eF g 4) (eF g 8) (eF g 16)
 | .o9 i c g=>t.o9 i (t.bf.getD c 0) (eF g 4) (eF g 8) (eF g 16)
 | .r5 i d f=>t.r5 i d f
 | .ye av=>av.reverse.foldl T.l8 t
 | .nX av=>av.reverse.foldl (T.nX (t.O t.dO -t.O t.cT) (t.P t.dO -t.P t.cT)) t
 | .zG av f=>av.reverse.foldl (T.ly (t.P (if f then t.cT else t.dO) -t.O (if f then t.cT else t.dO))) t
 | .zH av d=>av.reverse.foldl (T.ly d) t
 | .cL=>{t with cL:=!t.cL}
 | .round c=>{t with round:=(c:Int)}
 | .point j i=>t.point j i
 | .ji f=>t.ji (!f) ao
 | .bf c v=>{t with bf:=t.bf.set c v}
 | .delta i a=>t.delta i a
 | .q0 i f=>t.dw (t.told++[if f then t.O i else t.P i])
 | .ic j i=>t.dw (t.told++[t.P j -t.P i])
def kn (x:Int):Prop:=-32768<=x/\x<32768
def tO (av:List Nat) (m:Nat):Prop:=0<av.length/\av.length<=2/\∀i∈av,i<m
noncomputable def fT.Valid (m:Nat):fT->Prop
 | .rX i _=>i<m
 | .qo i c _=>i<m/\c<3
 | .mU i g=>i<m/\g<32
 | .o9 i c g=>i<m/\c<3/\g<32
 | .r5 i d _=>i<m/\kn d
 | .ye av=>tO av m
 | .nX av=>tO av m
 | .zG av _=>tO av m
 | .zH av d=>tO av m/\kn d
 | .cL=>True
 | .round c=>l6 (c:Int)
 | .point j i=>j<3/\i<m
 | .ji _=>True
 | .bf c v=>c<3/\kn v
 | .delta i a=>i<m/\(a=56\/a=50\/a=79)
 | .q0 i _=>i<m
 | .ic j i=>j<m/\i<m
section
variable {t:T}
theorem T.Ok.go (h:t.Ok m) (i) (d):(t.go i d).Ok m:=⟨h.fit.go i d,h.bd,h.code,h.d4,h.gq,h.gW⟩
theorem DO {t f9:T} (h:t.cG m) (a:f9.now=t.now) (b:f9.cF=t.cF) (c:f9.cD=t.cD) (d:f9.bf=t.bf):f9.cG m:=⟨by rw[a];exact h.now,by rw[b];exact h.cF,by rw[c];exact h.cD,by rw[d];exact h.bf,h.ia⟩
theorem AI (bD:∀t i,t.Ok m->(f t i).Ok m/\(f t i).told=t.told/\(f t i).round=t.round):∀(l:List Nat) (t:T),t.Ok m->(l.foldl f t).Ok m/\(l.foldl f t).told=t.told/\(l.foldl f t).round=t.round
 |[],t,h=>⟨h,rfl,rfl⟩
 |i::l,t,h=>by
  obtain⟨az,aE,b8⟩:=bD t i h
  obtain⟨gx,iX,jf⟩:=AI bD l (f t i) az
  exact⟨gx,iX.trans aE,jf.trans b8⟩
noncomputable def T.kept (t:T):List (Int×Int)×List Int×Int×Nat×Nat×Nat:=(t.cF,t.told,t.round,t.cI,t.cT,t.dO)
structure qN m (t f9:T):Prop where
 fit:t.cG m->f9.cG m
 eq:f9.kept=t.kept
theorem qN.fold (bD:∀t i,qN m t (f t i)) (l:List Nat):∀t,qN m t (l.foldl f t):=by
 induction l with
 |nil=>exactλt=>⟨id,rfl⟩
 |cons i l ih=>exactλt=>⟨λh=>(ih _).fit ((bD t i).fit h),(ih _).eq.trans (bD t i).eq⟩
theorem qN.oU (b:Bool) (aC) (a e) (t) (i):qN m t (t.oU b aC a e i):=
 qN.fold (f:=T.p5 b (t.lo b (aC.getD i 0) (kg aC i)) (t.aj b (aC.getD i 0) (kg aC i))) (λt j=>⟨λh=>⟨(B3 ..).trans h.now,h.cF,h.cD,h.bf,h.ia⟩,rfl⟩) (mX aC a e i) t
theorem qN.ji (b:Bool) (ao) (t):qN m t (t.ji b ao):=
 qN.fold (λt c=>qN.fold (qN.oU b _ _ _) _ t) (List.range ao.length) t
theorem GU (b:Bool) (ao) (h:t.cG m):(t.ji b ao).cG m/\(t.ji b ao).cF=t.cF/\(t.ji b ao).told=t.told/\(t.ji b ao).round=t.round/\(t.ji b ao).cI=t.cI/\(t.ji b ao).cT=t.cT/\(t.ji b ao).dO=t.dO:=
 have e:=(qN.ji (m:=m) b ao t).eq
 ⟨(qN.ji b ao t).fit h,cJ (·.1) e,cJ (·.2.1) e,cJ (·.2.2.1) e,cJ (·.2.2.2.1) e,cJ (·.2.2.2.2.1) e,cJ (·.2.2.2.2.2) e⟩
theorem JS (ao:List Nat) (h:t.Ok m) (ins:fT) (v:ins.Valid m):(ins.apply ao t).Ok m:=by
 induction ins with
 |rX i f=>exact⟨DO (h.go i _).fit rfl rfl rfl rfl,h.bd,h.code,v,v,h.gW⟩
 |qo i c f=>exact⟨DO (h.go i _).fit rfl rfl rfl rfl,h.bd,h.code,v.1,v.1,h.gW⟩
 |mU i g=>exact⟨DO (h.go i _).fit rfl rfl rfl rfl,h.bd,h.code,by show(if _ then i else t.cI)<m;split;exact v.1;exact h.d4,h.d4,v.1⟩
 |o9 i c g=>exact⟨DO (h.go i _).fit rfl rfl rfl rfl,h.bd,h.code,by show(if _ then i else t.cI)<m;split;exact v.1;exact h.d4,h.d4,v.1⟩
 |r5 i d f=>exact⟨DO (h.go i _).fit rfl rfl rfl rfl,h.bd,h.code,by show(if _ then i else t.cI)<m;split;exact v.1;exact h.d4,h.d4,v.1⟩
 |ye av=>exact(AI (λt i h=>⟨h.go i _,rfl,rfl⟩) _ t h).1
 |nX av=>exact(AI (λt i h=>⟨h.go i _,rfl,rfl⟩) _ t h).1
 |zG av f=>exact(AI (λt i h=>⟨h.go i _,rfl,rfl⟩) _ t h).1
 |zH av d=>exact(AI (λt i h=>⟨h.go i _,rfl,rfl⟩) _ t h).1
 |cL=>exact⟨⟨h.fit.now,h.fit.cF,h.fit.cD,h.fit.bf,h.fit.ia⟩,h.bd,h.code,h.d4,h.gq,h.gW⟩
 |round c=>exact⟨⟨h.fit.now,h.fit.cF,h.fit.cD,h.fit.bf,h.fit.ia⟩,h.bd,v,h.d4,h.gq,h.gW⟩
 |point j i=>
  show(t.point j i).Ok m
  unfold T.point
  split
  .exact⟨⟨h.fit.now,h.fit.cF,h.fit.cD,h.fit.bf,h.fit.ia⟩,h.bd,h.code,v.2,h.gq,h.gW⟩
  .split
   .exact⟨⟨h.fit.now,h.fit.cF,h.fit.cD,h.fit.bf,h.fit.ia⟩,h.bd,h.code,h.d4,v.2,h.gW⟩
   .exact⟨⟨h.fit.now,h.fit.cF,h.fit.cD,h.fit.bf,h.fit.ia⟩,h.bd,h.code,h.d4,h.gq,v.2⟩
 |ji f=>
  obtain⟨az,aE,b8,cH,kB,R3,fW⟩:=GU (!f) ao h.fit
  exact⟨az,(show(t.ji (!f) ao).lZ fromλb i=>by rw[aE];exact h.bd b i),by show l6 (t.ji (!f) ao).round;rw[cH];exact h.code,by show(t.ji (!f) ao).cI<m;rw[kB];exact h.d4,by show(t.ji (!f) ao).cT<m;rw[R3];exact h.gq,by show(t.ji (!f) ao).dO<m;rw[fW];exact h.gW⟩
 |bf c fU=>exact⟨⟨h.fit.now,h.fit.cF,h.fit.cD,by show(t.bf.set c fU).length=3;rw[B3];exact h.fit.bf,h.fit.ia⟩,h.bd,h.code,h.d4,h.gq,h.gW⟩
 |delta i a=>
  show(t.delta i a).Ok m
  unfold T.delta
  split
  .exact h
  .exact h.go i _
 |q0 i f=>exact h.dw _
 |ic j i=>exact h.dw _
end
noncomputable def LF (x:Option I) (a:Addr):Bool:=match x with
 |some (.at b)=>Nat.beq b a
 |_=>false
theorem afi {x:Option I} (h:LF x a=true):x=some (.at a):=by
 unfold LF at h
 split at h
 .rw[zZ h]
 .cases h
noncomputable def oG (o a:Nat):Bool:=xh o&&LF (q_.lookup (o:Int)) a
theorem U3 {o a:Nat} (h:oG o a=true):xh o=true/\q_.lookup (o:Int)=some (.at a):=by
 unfold oG at h
 rw[gI]at h
 exact⟨h.1,afi h.2⟩
theorem aka:((List.range 32).all λg=>oG (192+g) 613&&oG (224+g) 620)=true:=by kernel_rfl
theorem adq:((List.range 32).all λg=>[192,224].all λb=>[4,8,16].all λd=>(decide (((((b+g:Nat):Int)).fdiv (d:Nat)).fmod 2=1)==eF g d))=true:=by kernel_rfl
theorem Un {g:Nat} (h:g<32):oG (192+g) 613=true/\oG (224+g) 620=true:=by
 have:=List.all_eq_true.mp aka g (List.mem_range.mpr h)
 rwa [gI]at this
theorem AH (h:g<32) (aP:b∈[192,224]) (hd:d∈[4,8,16]):decide (((((b+g:Nat):Int)).fdiv (d:Nat)).fmod 2=1)=eF g d:=by
 have:=List.all_eq_true.mp (List.all_eq_true.mp (List.all_eq_true.mp adq g (List.mem_range.mpr h)) b aP) d hd
 exact beq_iff_eq.mp this
section
variable {N:fy} {G:bl} {B:fF} {aH:List Nat}
theorem KQ {A R:List Nat} (h:aH.drop i=A++R):aH.drop (i+A.length)=R:=by
 rw[<-BO,h,List.drop_left]
theorem Rh {R:List Nat} (h:aH.drop i=o::R):aH[i]?=some o:=by
 have:=uO h 0
 simpa using this
theorem Cj.trans (h:Cj N n q d s pB) (bH:Cj N n q e pB s2):Cj N n q (d+e) s s2:=λdY=>by
 rw[show dY+(d+e)=(dY+e)+d by omega,h,bH]
theorem lJ.then (h:lJ N n q aH ao m i t l c d s) (bH:∀G B bq,lM N q aH ao m i t l c G B bq->lJ N n q aH ao m qn f9 fX jx e ⟨aq N G B,bq⟩):lJ N n q aH ao m qn f9 fX jx (d+e) s:=
 h.rec λG B bq az M=>(bH G B bq M).rec λbu bU oC aE oP=>⟨bu,bU,oC,az.trans aE,oP⟩
theorem Mc (h:c<=7000):c<8000:=dg h (by decide)
theorem adV (fm:c4 N q) (M:lM N q aH ao m i t l c G B bq) {ns:List Int} (c8:aH.drop i=gz ns++jT) (aI:ns.length<=10) (aQ:∀x∈ns,kn x) (bY:t.told.length<=40) (aN:c<=7000):
  lJ N n q aH ao m (i+(gz ns).length) (t.dw (t.told++ns)) l (c+1) 1 ⟨aq N G B,bq⟩:=
 (ahZ fm M c8 aI aQ (dg (mG bY aI) (by decide)) (Mc aN))
theorem amz {P:fF->Prop} (az:B.t=D) (aE:B.loop=l) (h:P {B with t:=D,loop:=l}):P B:=by
 cases az;cases aE;exact h
theorem Lb (fm:c4 N q) (M:lM N q aH ao m i t l c G B bq) {o a:Nat} {R:List Nat} (c8:aH.drop i=o::R) (bw:oG o a=true) (rQ:jc.lookup a=none) (aN:c<=7000) {fX:Int} (yJ:f9.Ok m) (sN:f9.round=t.round)
  (cA:∀(k:Nat) p (B:fF),c4 N (k::p)->B.ends=ao.map cY->qS N G B.gc t.round->aJ (n+8) p a [.ref (N.f .work),.int o] ⟨aq N G {B with t:=t,loop:=l},k⟩=some (.none,⟨aq N G {B with t:=f9,loop:=fX},k+1⟩)):
  lJ N n q aH ao m (i+1) f9 fX (c+1) 1 ⟨aq N G B,bq⟩:=
 (ahY fm M (Rh c8) (U3 bw).1 (U3 bw).2 rQ (Mc aN) yJ sN λk p B Z az aE cK aQ=>amz (P:=λz=>aJ (n+8) p a [.ref (N.f .work),.int (o:Nat)] ⟨aq N G z,k⟩=some (.none,⟨aq N G {B with t:=f9,loop:=fX},k+1⟩)) az aE (cA k p B Z cK (az▸aQ)))
theorem M3 (fm:c4 N q) (M:lM N q aH ao m i t l c G B bq) {ns:List Int} {o a:Nat} (c8:aH.drop i=(gz ns++[o])++jT) (aI:ns.length<=10) (aQ:∀x∈ns,kn x) (bY:t.told.length<=40) (aN:c<=6000) (bw:oG o a=true) (rQ:jc.lookup a=none) (yJ:f9.Ok m) (sN:f9.round=t.round)
  (cA:∀(k:Nat) p (G:bl) (B:fF),c4 N (k::p)->qS N G B.gc t.round->aJ (n+8) p a [.ref (N.f .work),.int o] ⟨aq N G {B with t:=t.dw (t.told++ns),loop:=l},k⟩=some (.none,⟨aq N G {B with t:=f9,loop:=fX},k+1⟩)):
  lJ N n q aH ao m (i+(gz ns++[o]).length) f9 fX (c+2) 2 ⟨aq N G B,bq⟩:=
 gO▸(adV fm M (c8.trans (nM ..)) aI aQ bY (d5 aN (by decide))).then λbu bU oC oP=>Lb fm oP (KQ (c8.trans (nM ..))) bw rQ (z4 (d5 aN (by decide:6000<=6999))) yJ sN λk p B Z cK aQ=>cA k p bu B Z aQ
theorem WX (h:x<100):kn (cY x):=by unfold kn cY;omega
theorem tE (h:x<m) (bM:m<=7):kn (cY x):=WX (lW h (d5 bM (by decide)))
theorem Eu (h:x<3):kn (cY x):=WX (lW h (by decide))
theorem IV:∀x∈[],kn x:=λx h=>nomatch h
theorem xH (h:kn a) (d8:∀x∈aC,kn x):∀x∈a::aC,kn x:=λx bE=>(List.mem_cons.mp bE).elim (λe=>e▸h) (d8 x)
theorem r_ (h:kn a):∀x∈[a],kn x:=xH h IV
theorem aoC {aC R:List Int} (d8:∀x∈aC,kn x) (cC:∀x∈R,kn x):∀x∈aC++R,kn x:=λx bE=>(List.mem_append.mp bE).elim (d8 x) (cC x)
theorem aoD {aC:List Nat} (h:∀x∈aC,x<m) (bM:m<=7):∀x∈aC.map cY,kn x:=λx bE=>(List.mem_map.mp bE).elim λy cM=>cM.2▸tE (h y cM.1) bM
theorem Tv (h:c<=5000):c<=6000:=d5 h (by decide)
theorem Mb (h:c<=20):c<=40:=d5 h (by decide)
theorem sU (h:c<=20):c<60:=dg h (by decide)
theorem abu (fm:c4 N q) (M:lM N q aH ao m i t 1 c G B bq) {av:List Nat} (c8:aH.drop i=(if 1<av.length then gz [av.length]++[23]else[])++jT) (az:0<av.length) (aE:av.length<=2) (bY:t.told.length<=20) (aN:c<=6000):
  ∃d,d<=2/\lJ N n q aH ao m (i+(if 1<av.length then gz [av.length]++[23]else[]).length) t av.length (c+d) d ⟨aq N G B,bq⟩:=by
 by_cases h:1<av.length
 .rw[bT h]at c8 ⊢
  exact⟨2,fu 2,M3 fm M c8 (by simp) (r_ (Eu (Nat.lt_succ_of_le aE))) (Mb bY) aN (by rfl:oG 23 1036=true) rfl M.ok rfl λk p G B Z aQ=>afY Z rfl (sU bY) (dg aE (by decide)) 23⟩
 .rw[bX h,Nat.le_antisymm (BZ h) az]
  exact⟨0,by decide,G,B,bq,λU=>rfl,M⟩
theorem ak4 {D:T} {l:List Int} (h:D.told=l):D.dw l=D:=by cases D;cases h;rfl
theorem adC (bD:∀t i l,f (t.dw l) i=(f t i).dw l) (aC:List Nat):∀(t:T) l,aC.foldl f (t.dw l)=(aC.foldl f t).dw l:=by
 induction aC with
 |nil=>intro t l;rfl
 |cons i aC ih=>intro t l;exact(cJ (aC.foldl f) (bD t i l)).trans (ih (f t i) l)
theorem adz (bD:∀t i l,f (t.dw l) i=(f t i).dw l) (bY:∀t i,(f t i).told=t.told) (aC:List Nat) (t:T) (l):(aC.foldl f (t.dw l)).dw t.told=aC.foldl f t:=by
 rw[adC bD]
 have:∀(aC:List Nat) (t:T),(aC.foldl f t).told=t.told:=by
  intro aC
  induction aC with
  |nil=>intro t;rfl
  |cons i aC ih=>intro t;exact(ih _).trans (bY t i)
 exact ak4 (this aC t)
def B7 (N:fy) (n:Nat) (q:ay) (aH ao:List Nat) (m i:Nat) (t:T) (c:Nat) (s:bL) (aC:List Nat) (f9:T):Prop:=∃d,d<=4/\lJ N n q aH ao m (i+aC.length) f9 1 (c+d) d s
theorem tV (fm:c4 N q) (M:lM N q aH ao m i t 1 c G B bq) {ns:List Int} (c8:aH.drop i=(gz ns++[o])++jT) (bY:t.told.length<=20) (aN:c<=5000) (aI:ns.length<=10) (aQ:∀x∈ns,kn x) (bw:oG o a=true) (rQ:jc.lookup a=none) (yJ:f9.Ok m) (sN:f9.round=t.round)
  (cA:∀(k:Nat) p (G:bl) (B:fF),c4 N (k::p)->qS N G B.gc t.round->aJ (n+8) p a [.ref (N.f .work),.int o] ⟨aq N G {B with t:=t.dw (t.told++ns),loop:=1},k⟩=some (.none,⟨aq N G {B with t:=f9,loop:=1},k+1⟩)):
  B7 N n q aH ao m i t c ⟨aq N G B,bq⟩ (gz ns++[o]) f9:=⟨2,by decide,M3 fm M c8 aI aQ (Mb bY) (Tv aN) bw rQ yJ sN cA⟩
theorem Hv (fm:c4 N q) (M:lM N q aH ao m i t 1 c G B bq) (c8:aH.drop i=q7 av nums o++jT) (bY:t.told.length<=20) (aN:c<=5000) (bM:m<=7) (v:tO av m) (bG:nums.length<=1) (eL:∀x∈nums,kn x) (f) (bD:∀t i l,f (t.dw l) i=(f t i).dw l) (bI:∀t i,(f t i).told=t.told/\(f t i).round=t.round) (g5:∀t i,t.Ok m->(f t i).Ok m) (bw:oG o a=true) (rQ:jc.lookup a=none)
  (cA:∀(k:Nat) p (G:bl) (B:fF),c4 N (k::p)->aJ (n+8) p a [.ref (N.f .work),.int o] ⟨aq N G {B with t:=t.dw (t.told++(av.map cY++nums)),loop:=av.reverse.length},k⟩=some (.none,⟨aq N G {B with loop:=1,t:=(av.reverse.foldl f (t.dw (t.told++(av.map cY++nums)))).dw t.told},k+1⟩)):
  B7 N n q aH ao m i t c ⟨aq N G B,bq⟩ (q7 av nums o) (av.reverse.foldl f t):=by
 unfold q7 at c8
 rw[nM,nM]at c8
 have ok:=AI (λt i h=>⟨g5 t i h,(bI t i).1,(bI t i).2⟩) av.reverse t M.ok
 refine(abu (n:=n) fm M c8 v.1 v.2.1 bY (Tv aN)).elim λd h=>?_
 refine⟨d+2,EW h.1 2,?_⟩
 unfold q7
 rw[nM,gO,<-rE]
 refine h.2.then λG B bq XK=>M3 fm XK ((nM ..).trans (KQ c8).symm).symm ?_ (aoC (aoD v.2.2 bM) eL) (Mb bY) (d5 (mG aN h.1) (by decide)) bw rQ ok.1 ok.2.2 λk p G B Z aQ=>?_
 .rw[gO,fD];exact d5 (mG v.2.1 bG) (by decide)
 .have:=cA k p G B Z
  rw[adz bD (λt i=>(bI t i).1),EX]at this
  exact this
theorem NB {av:List Nat}:aC++(av.map cY++[])=aC++av.reverse.reverse.map cY:=by rw[vR,List.reverse_reverse]
theorem alP {av:List Nat}:aC++(av.map cY++[d])=aC++av.reverse.reverse.map cY++[d]:=by rw[nM,List.reverse_reverse]
theorem Bh (v:tO av m) (h:c<=20):c+av.reverse.length<60:=by rw[EX];exact dg (mG h v.2.1) (by decide)
theorem Ih (v:tO av m):∀i∈av.reverse,i<m:=λi aj=>v.2.2 i (List.mem_reverse.mp aj)
theorem AD (a:Nat) (f) (h:((a:Int).fmod 2=1)=False/\(((a+1:Nat):Int).fmod 2=1)=True):decide ((((a+oQ f:Nat):Int)).fmod 2=1)=f:=by
 rcases f with _|_
 .exact qc (of_eq_false h.1)
 .exact iU (of_eq_true h.2)
theorem A6 (h:oG a o=true/\oG (a+1) o=true) (f):oG (a+oQ f) o=true:=by
 rcases f with _|_
 .exact h.1
 .exact h.2
theorem PE (f):oG (oQ f) 966=true/\decide (((oQ f:Nat):Int).fmod 2=1)=f:=by rcases f with _|_<;>decide
theorem aj1 (h:j<3):oG (16+j) 1022=true:=by
 have:∀j:Nat,j<3->oG (16+j) 1022=true:=by decide
 exact this j h
theorem ak1 (t:T) (a j):(t.point a j).round=t.round:=by unfold T.point;split;rfl;split<;>rfl
theorem abJ (t:T) (j) (a):(t.delta j a).round=t.round:=by unfold T.delta;split<;>rfl
theorem aoE (h:a=56\/a=50\/a=79):kn a:=by unfold kn;omega
theorem ac6 (fm:c4 N q) (M:lM N q aH ao m i t 1 c G B bq) (ins:fT) (v:ins.Valid m) (c8:aH.drop i=ins.enc t++jT) (bY:t.told.length<=20) (aN:c<=5000) (bM:m<=7):
  B7 N n q aH ao m i t c ⟨aq N G B,bq⟩ (ins.enc t) (ins.apply ao t):=by
 have ok:=JS ao M.ok
 have F:=M.ok.fit.dw
 revert v c8
 refine ins.rec ?_ ?_ ?_ ?_ ?_ ?_ ?_ ?_ ?_ ?_ ?_ ?_ ?_ ?_ ?_ ?_ ?_
 .exactλj f v c8=>tV fm M c8 bY aN (lG rfl) (r_ (tE v bM)) (A6 (by decide) f) rfl (ok (.rX j f) v) rfl λk p G B Z aQ=>af0 Z aQ (F _) rfl (fV (sU bY) (by decide)) v _ f (AD 46 f (by decide))
 .exactλj a f v c8=>tV fm M c8 bY aN (lG rfl) (xH (tE v.1 bM) (r_ (Eu v.2))) (A6 (by decide) f) rfl (ok (.qo j a f) v) rfl λk p G B Z aQ=>af2 Z aQ (F _) rfl (sU bY) v.1 v.2 _ f (AD 62 f (by decide))
 .exactλj g v c8=>tV fm M c8 bY aN (lG rfl) (r_ (tE v.1 bM)) (Un v.2).1 rfl (ok (.mU j g) v) rfl λk p G B Z aQ=>af1 Z aQ (F _) rfl (sU bY) v.1 M.ok.d4 _ (AH v.2 (by decide) (by decide)) (AH v.2 (by decide) (by decide)) (AH v.2 (by decide) (by decide))
 .exactλj a g v c8=>tV fm M c8 bY aN (lG rfl) (xH (tE v.1 bM) (r_ (Eu v.2.1))) (Un v.2.2).2 rfl (ok (.o9 j a g) v) rfl λk p G B Z aQ=>af3 Z aQ (F _) rfl (sU bY) v.1 v.2.1 M.ok.d4 _ (AH v.2.2 (by decide) (by decide)) (AH v.2.2 (by decide) (by decide)) (AH v.2.2 (by decide) (by decide))
 .exactλj d f v c8=>tV fm M c8 bY aN (lG rfl) (xH (tE v.1 bM) (r_ v.2)) (A6 (by decide) f) rfl (ok (.r5 j d f) v) rfl λk p G B Z aQ=>af5 Z (F _) rfl (sU bY) v.1 M.ok.d4 _ (AD 58 f (by decide))
 .exactλav v c8=>Hv fm M c8 bY aN bM v (lG rfl) IV T.l8 (λU U U=>rfl) (λU U=>⟨rfl,rfl⟩) (λU i h=>h.go i _) rfl rfl λk p G B Z=>afI Z (F _) NB (Bh v bY) (Ih v) M.ok.d4 rfl _
 .exactλav v c8=>Hv fm M c8 bY aN bM v (lG rfl) IV (T.nX (t.O t.dO -t.O t.cT) (t.P t.dO -t.P t.cT)) (λU U U=>rfl) (λU U=>⟨rfl,rfl⟩) (λU i h=>h.go i _) rfl rfl λk p G B Z=>afW Z (F _) M.ok.bd NB (Bh v bY) (Ih v) rfl _ M.ok.gq M.ok.gW
 .exactλav f v c8=>Hv fm M c8 bY aN bM v (lG rfl) IV (T.ly (t.P (if f then t.cT else t.dO) -t.O (if f then t.cT else t.dO))) (λU U U=>rfl) (λU U=>⟨rfl,rfl⟩) (λU i h=>h.go i _) (A6 (by decide) f) rfl λk p G B Z=>agl Z (F _) NB (Bh v bY) (Ih v) rfl _ (AD 50 f (by decide)) M.ok.gq M.ok.gW
 .exactλav d v c8=>Hv fm M c8 bY aN bM v.1 (lG rfl) (r_ v.2) (T.ly d) (λU U U=>rfl) (λU U=>⟨rfl,rfl⟩) (λU i h=>h.go i _) rfl rfl λk p G B Z=>agm Z (F _) alP (Bh v.1 bY) (Ih v.1) rfl _
 .exactλv c8=>⟨1,by decide,Lb fm M c8 (PE t.cL).1 rfl (d5 aN (by decide)) (ok .cL v) rfl λk p B Z cK aQ=>afL Z _ (PE t.cL).2 (by cases t.cL<;>decide)⟩
 .exactλa v c8=>⟨1,by decide,(ah0 fm M (Rh c8) v (Mc (d5 aN (by decide))))⟩
 .exactλa j v c8=>tV fm M c8 bY aN (lG rfl) (r_ (tE v.2 bM)) (aj1 v.1) rfl (ok (.point a j) v) (ak1 t a j) λk p G B Z aQ=>af9 Z rfl (sU bY) v.1
 .exactλf v c8=>⟨1,by decide,Lb fm M c8 (A6 (by decide) f) rfl (d5 aN (by decide)) (ok (.ji f) v) (GU (!f) ao M.ok.fit).2.2.2.1 λk p B Z cK aQ=>afX (B:={B with t:=t,loop:=1}) Z M.ok.fit M.ok.bd cK M.ao _ (AD 48 f (by decide))⟩
 .exactλa x v c8=>tV fm M c8 bY aN (lG rfl) (xH (Eu v.1) (r_ v.2)) (a:=793) rfl rfl (ok (.bf a x) v) rfl λk p G B Z aQ=>ago Z (F _) rfl (sU bY) v.1 _
 .exactλj a v c8=>tV fm M c8 bY aN (lG rfl) (xH (aoE v.2) (xH (tE v.1 bM) (r_ (Eu (by decide))))) rfl rfl (ok (.delta j a) v) (abJ t j a) λk p G B Z aQ=>afN Z (F _) v.2 rfl (sU bY) v.1
 .exactλj f v c8=>tV fm M c8 bY aN (lG rfl) (r_ (tE v bM)) (A6 (by decide) f) rfl (ok (.q0 j f) v) rfl λk p G B Z aQ=>afU Z (F _) rfl (sU bY) v _ (AD 70 f (by decide))
 .exactλa j v c8=>tV fm M c8 bY aN (lG rfl) (xH (tE v.1 bM) (r_ (tE v.2 bM))) rfl rfl (ok (.ic a j) v) rfl λk p G B Z aQ=>afZ Z (F _) rfl (sU bY) v.2 v.1 _ rfl
end
end Mine.lK
namespace Mine.Q
section
variable (L:cy) (p:ay) (au:aL->aD I) (w X ah aB aK aX bg bS cv dc eY fL gX ir gY kI zP pH)
theorem agE:c5 L 93 (aA 173).sc p G2 (Bj X ah aB aK aX) au=(Y (aU p .Mod (aU p .Add (aU p .Add (aU p .Add (aU p .Mult (H aK) (ak 48271)) (aU p .Mod (aV (H X) (H aX)) (ak 2147483647))) (aU p .Mult (ak 31) (H aX))) (ak 17)) (ak 2147483647)) λqa=>pr (au (Bj X ah aB qa aX))).bB:=by kernel_rfl
theorem PJ:body L p 1290 [X,ah]=(b7 (b_ .Gt (aV (H X) (ak 0)) (ak 0)) (Y (aU p .Mod (aV (H X) (ak 0)) (H ah)) λfY=>Y (aU p .FloorDiv (aV (H X) (ak 0)) (H ah)) λhU=>gT (H X) (ak 0) hU (H fY)) (Y (aU p .Mod (aU p .Add (aU p .Mult (aV (H X) (ak 1)) (ak 39373)) (ak 7)) (ak 2147483647)) λgu=>gT (H X) (ak 1) gu (aU p .Mod (aU p .FloorDiv (aU p .Mod (aU p .Mult (aV (H X) (ak 1)) (aV (H X) (ak 1))) (ak 2147483629)) (ak 32)) (H ah)))).bB:=by kernel_rfl
noncomputable abbrev Fx (L:cy) (p:ay) (X:I) (ah:I):bF I:=aV (H ah) (bC L p 1290 (bP (H X) (ck L p (ai (.bi "len")) (bh (H ah)))))
theorem J3:body L p 1297 [X,ah]=(Fx L p X ah).bB:=by kernel_rfl
noncomputable abbrev Qa (L:cy) (p:ay) (X:I):bF I:=b7 (Y (b_ .GtE (ck L p (ai (.bi "min")) (bh (Y (H X) λjE=>pr (rI L p 93 QU Kv "one" jE (Vw .undef))))) (ak 0)) λh6=>ite h6 (b_ .Lt (ck L p (ai (.bi "max")) (bh (Y (H X) λmZ=>pr (rI L p 93 QV Kw "one" mZ (Vx .undef))))) (ak 256)) (ai false)) (ck L p (ai (.type "bytes")) (bh (aU p .Add (e_ p (bP (ak 64) (ck L p (ai (.bi "len")) (bh (H X))))) (H X)))) (Y (ck L p (ai (.type "bytes")) (bh (e_ p (bP (ak 65) (ck L p (ai (.bi "len")) (bh (H X))))))) λqB=>Y (H X) λm5=>pr (jL L p 96 (aA 176).sc G3 Ho m5 (Di L p) (zx X qB .undef)))
theorem YW:body L p 1302 [X]=(Qa L p X).bB:=by kernel_rfl
theorem aaV:eK L 93 QU p (Vw aX) (ee Kv 0)=(ck L p (ai (.type "int")) (bh (H aX))).bB:=by kernel_rfl
theorem aaW:eK L 93 QV p (Vx aX) (ee Kw 0)=(ck L p (ai (.type "int")) (bh (H aX))).bB:=by kernel_rfl
theorem aha:Di L p (zx X ah aB)=(H ah).bB:=by kernel_rfl
theorem agF:c5 L 96 (aA 176).sc p G3 (zx X ah aB) au=(Y (aU p .Add (H ah) (ck L p (ai (.type "bytes")) (bh (e_ p (bP (aU p .FloorDiv (aU p .Mod (H aB) (ak 65536)) (ak 256)) (aU p .Mod (H aB) (ak 256))))))) λans=>pr (au (zx X ans aB))).bB:=by kernel_rfl
theorem YX:body L p 1309 [X,ah]=(Y (b7 (b_ .Eq (ki .Lt (H X) (ak 0)) (ki .Lt (H ah) (ak 0))) (ak 1) (Y (ak 1) s3)) λfY=>aU p .Mult (H fY) (aU p .FloorDiv (aU p .Add (aU p .Mult (ak 2) (ck L p (ai (.bi "abs")) (bh (H X)))) (ck L p (ai (.bi "abs")) (bh (H ah)))) (aU p .Mult (ak 2) (ck L p (ai (.bi "abs")) (bh (H ah)))))).bB:=by kernel_rfl
theorem YY:body L p 1316 [X,ah]=(Y (ck L p (ai (.bi "abs")) (bh (H ah))) λt3=>Y (Y (jw (aU p .Mult (aU p .FloorDiv (aU p .Add (H t3) (ak 32)) (ak 64)) (ak 64)) (aU p .Add (aU p .Mult (aU p .FloorDiv (H t3) (ak 64)) (ak 64)) (ak 32)) (aU p .Mult (aU p .FloorDiv (aU p .Add (H t3) (ak 16)) (ak 32)) (ak 32)) (aU p .Mult (aU p .FloorDiv (H t3) (ak 64)) (ak 64))) λfj=>pr (new p (.cB (List.zip [24,25,61,125] fj)))) λgA=>Y (eM (bP (aU p .Mult (aU p .FloorDiv (aU p .Add (H t3) (ak 63)) (ak 64)) (ak 64)) (H t3))) λpF=>ie pF λvH NZ=>gT (H gA) (ak 124) vH (gT (H gA) (ak 122) NZ (b7 (b_ .GtE (H ah) (ak 0)) (aV (H gA) (aV (H X) (ns "round"))) (aU p .Sub (ak 0) (aV (H gA) (aV (H X) (ns "round"))))))).bB:=by kernel_rfl
theorem YZ:body L p 1323 [X,ah]=(b7 (b_ .GtE (H ah) (ak 0)) (ck L p (ai (.bi "max")) (bP (ck L p (ai (.type "int")) (bh (H X))) (ak 64))) (ck L p (ai (.bi "min")) (bP (ck L p (ai (.type "int")) (bh (H X))) (Y (ak 64) s3)))).bB:=by kernel_rfl
theorem Y0:body L p 1330 [X,ah,aB]=(Y (aU p .Add (aV (aV (aV (H X) (ns "now")) (H ah)) (aV (H X) (ns "axis"))) (H aB)) λi8=>gT (aV (aV (H X) (ns "now")) (H ah)) (aV (H X) (ns "axis")) i8 (Y (ai (.bool true)) λh6=>gT (aV (aV (H X) (ns "touched")) (H ah)) (aV (H X) (ns "axis")) h6 (ai .none))).bB:=by kernel_rfl
theorem PK:body L p 1337 [X,ah,aB,aK]=(aU p .Sub (aV (aV (aV (H X) (H aK)) (H ah)) (aV (H X) (ns "axis"))) (aV (aV (aV (H X) (H aK)) (H aB)) (aV (H X) (ns "axis")))).bB:=by kernel_rfl
noncomputable abbrev Kc (L:cy) (p:ay) (X ah aB aK aX bg bS:I):bF I:=eH (bC L p 1330 (dF (H X) (H ah) (aU p .Sub (H bS) (bC L p 1337 (jw (H X) (H ah) (H aX) (ns "now")))))) (Y (e_ p (dF (b7 (b_ .Eq (aU p .Mod (aU p .FloorDiv (H aK) (ak 16)) (ak 2)) (ak 1)) (H ah) (H aX)) (H aX) (H ah))) λN7=>gT (H X) (ns "rp") N7 (ai .none))
noncomputable abbrev Ka (L:cy) (p:ay) (X ah aB aK aX bg bS:I):bF I:=b7 (b_ .Eq (aU p .Mod (aU p .FloorDiv (H aK) (ak 8)) (ak 2)) (ak 1)) (Y (bC L p 1323 (bP (H bS) (H bg))) λanC=>Kc L p (X) (ah) (aB) (aK) (aX) (bg) (anC)) (Kc L p (X) (ah) (aB) (aK) (aX) (bg) (bS))
noncomputable abbrev Kd (L:cy) (p:ay) (X ah aB aK aX bg bS:I):bF I:=Y (bC L p 1316 (bP (H X) (H bS))) λOa=>Ka L p (X) (ah) (aB) (aK) (aX) (bg) (Oa)
noncomputable abbrev Fy (L:cy) (p:ay) (X ah aB aK aX bg bS:I):bF I:=b7 (b_ .Eq (aU p .Mod (aU p .FloorDiv (H aK) (ak 4)) (ak 2)) (ak 1)) (b7 (Y (b_ .IsNot (H aB) (ai .none)) λN_=>ite N_ (b_ .Gt (ck L p (ai (.bi "abs")) (bh (aU p .Sub (H bS) (H bg)))) (ak 68)) (ai false)) (Y (H bg) λOb=>Kd L p (X) (ah) (aB) (aK) (aX) (bg) (Ob)) (Kd L p (X) (ah) (aB) (aK) (aX) (bg) (bS))) (Ka L p (X) (ah) (aB) (aK) (aX) (bg) (bS))
noncomputable abbrev J' (L:cy) (p:ay) (X:I) (ah:I) (aB:I) (aK:I):bF I:=Y (eM (bP (aV (aV (H X) (ns "rp")) (ak 0)) (bC L p 1337 (jw (H X) (H ah) (aV (aV (H X) (ns "rp")) (ak 0)) (ns "was"))))) λi8=>ie i8 λfY kT=>Y (b7 (b_ .Is (H aB) (ai .none)) (H kT) (H aB)) λmZ=>b7 (Y (b_ .IsNot (H aB) (ai .none)) λvH=>ite vH (b_ .NotEq (ki .Lt (H kT) (ak 0)) (ki .Lt (H mZ) (ak 0))) (ai false)) (Y (aU p .Sub (ak 0) (H mZ)) λanE=>Fy L p (X) (ah) (aB) (aK) (fY) (kT) (anE)) (Fy L p (X) (ah) (aB) (aK) (fY) (kT) (mZ))
theorem PL:body L p 1344 [X,ah,aB,aK]=(J' L p X ah aB aK).bB:=by kernel_rfl
theorem Y3:body L p 1351 [X,ah]=(Y (eM (bP (aV (aV (H X) (ns "rp")) (ak 1)) (aV (aV (H X) (ns "rp")) (ak 2)))) λkH=>ie kH λjE i8=>Y (eM (bP (bC L p 1337 (jw (H X) (H i8) (H jE) (ns "was"))) (bC L p 1337 (jw (H X) (H i8) (H jE) (ns "now"))))) λry=>ie ry λhU mC=>Y (H ah) λmZ=>pr (jL L p 96 (aA 183).sc L4 TU mZ (TK L p) (Bk X ah jE i8 hU mC .undef .undef))).bB:=by kernel_rfl
theorem ahb:TK L p (Bk X ah aB aK aX bg bS cv)=(ai .none).bB:=by kernel_rfl
theorem Tf:c5 L 96 (aA 183).sc p L4 (Bk X ah aB aK aX bg bS cv) au=(Y (bC L p 1337 (jw (H X) (H bS) (H aB) (ns "was"))) λmD=>Y (b7 (b_ .NotEq (H aX) (ak 0)) (bC L p 1309 (bP (aU p .Mult (H mD) (H bg)) (H aX))) (H mD)) λqB=>eH (bC L p 1330 (dF (H X) (H bS) (aU p .Sub (H qB) (bC L p 1337 (jw (H X) (H bS) (H aB) (ns "now")))))) (pr (au (Bk X ah aB aK aX bg bS qB)))).bB:=by kernel_rfl
theorem Y5:body L p 1361 [X,ah]=(Y (aV (H X) (ns "rows")) λt3=>pr (jL L p 98 (aA 185).sc t9 Mu t3 (Dj L p) (ro X ah .undef .undef .undef .undef))).bB:=by kernel_rfl
theorem ahc:Dj L p (ro X ah aB aK aX bg)=(ai .none).bB:=by kernel_rfl
noncomputable abbrev Kf (L:cy) (p:ay) (X ah aB aK aX bg bS cv dc eY fL gX ir gY kI:I):bF I:=eH (bC L p 1330 (dF (H ah) (H aK) (aU p .Sub (H gX) (H fL)))) (Y (e_ p (dF (H aK) (H aK) (aV (aV (H ah) (ns "rp")) (ak 2)))) λOc=>gT (H ah) (ns "rp") Oc (aU p .Add (bC L p 1302 (bh (e_ p (bP (H aK) (H bg))))) (ck L p (ai (.type "bytes")) (bh (e_ p (bh (aU p .Add (ak 62) (H eY))))))))
theorem aa1:eK L 96 CA p (Vy bS ah X) (ee Aj 0)=(bC L p 1290 (bP (H X) (ck L p (ai (.bi "len")) (bh (aV (H ah) (ns "now")))))).bB:=by kernel_rfl
theorem ahe:Mi L p (n8 X ah aB aK aX bg bS cv dc eY fL gX ir gY kI)=(bC L p 1368 (qC (H X) (H ah) (H cv) (Y (ai []) (iK p)) (ak 60))).bB:=by kernel_rfl
theorem agH:c5 L 89 (aA 187).sc p L6 (n8 X ah aB aK aX bg bS cv dc eY fL gX ir gY kI) au=(eH (bC L p 1330 (dF (H ah) (H bS) (aU p .Sub (ak 0) (bC L p 1337 (jw (H ah) (H bS) (aV (aV (H ah) (ns "rp")) (ak 0)) (ns "now")))))) (pr (au (n8 X ah aB aK aX bg bS cv dc eY fL gX ir gY kI)))).bB:=by kernel_rfl
theorem ahf:Mj L p (n8 X ah aB aK aX bg bS cv dc eY fL gX ir gY kI)=(bC L p 1368 (qC (H X) (H ah) (H cv) (Y (ai []) (iK p)) (aU p .Add (ak 50) (H eY)))).bB:=by kernel_rfl
theorem agI:c5 L 85 (aA 187).sc p L7 (n8 X ah aB aK aX bg bS cv dc eY fL gX ir gY kI) au=(eH (bC L p 1330 (dF (H ah) (H kI) (H gY))) (pr (au (n8 X ah aB aK aX bg bS cv dc eY fL gX ir gY kI)))).bB:=by kernel_rfl
theorem ahg:Mk L p (n8 X ah aB aK aX bg bS cv dc eY fL gX ir gY kI)=(bC L p 1368 (qC (H X) (H ah) (H cv) (e_ p (bh (H dc))) (ak 56))).bB:=by kernel_rfl
theorem agJ:c5 L 88 (aA 187).sc p L8 (n8 X ah aB aK aX bg bS cv dc eY fL gX ir gY kI) au=(eH (bC L p 1330 (dF (H ah) (H kI) (H dc))) (pr (au (n8 X ah aB aK aX bg bS cv dc eY fL gX ir gY kI)))).bB:=by kernel_rfl
noncomputable abbrev Kg (L:cy) (p:ay) (X ah aB aK aX bg bS cv dc eY:I):bF I:=aU p .Add (bC L p 1302 (bh (e_ p (dF (H dc) (H aK) (ak 1))))) (ck L p (ai (.type "bytes")) (bh (e_ p (bh (ak 93)))))
theorem aa7:eK L 78 KC p (Vz pH) (ee FE 0)=(ck L p (ai (.type "tuple")) (bh (H pH))).bB:=by kernel_rfl
noncomputable abbrev Ke (L:cy) (p:ay) (X ah aB aK aX bg bS cv dc eY fL gX:I):bF I:=Y (aV (aV (aV (H X) (ns "was")) (H aB)) (H ah)) λEi=>b7 (b_ .LtE (H Ei) (aV (H dc) (ak 0))) (aU p .Sub (aU p .Add (H Ei) (aV (aV (aV (H X) (ns "now")) (aV (H dc) (ak 1))) (H ah))) (aV (H dc) (ak 0))) (b7 (b_ .GtE (H Ei) (aV (H eY) (ak 0))) (aU p .Sub (aU p .Add (H Ei) (aV (aV (aV (H X) (ns "now")) (aV (H eY) (ak 1))) (H ah))) (aV (H eY) (ak 0))) (Y (aU p .Sub (aV (aV (aV (H X) (ns "now")) (aV (H eY) (ak 1))) (H ah)) (aV (aV (aV (H X) (ns "now")) (aV (H dc) (ak 1))) (H ah))) λam6=>aU p .Add (aV (aV (aV (H X) (ns "now")) (aV (H dc) (ak 1))) (H ah)) (bC L p 1309 (bP (aU p .Mult (aU p .Sub (H Ei) (aV (H dc) (ak 0))) (H am6)) (aU p .Sub (aV (H eY) (ak 0)) (aV (H dc) (ak 0)))))))
theorem Y4:body L p 1356 [X,ah,aB,aK]=(Y (eM (bP (cQ L p (H aK) "index" (bh (H aB))) (ck L p (ai (.bi "len")) (bh (H aK))))) λcV=>ie cV λcW f_=>Y (aV (Y (ck L p (ai (.type "range")) (bP (ak 1) (aU p .Add (H f_) (ak 1)))) λm5=>pr (jZ p (λq J=>gv L 95 Ao q J (ee yk 2)) (λq J=>eK L 95 Ao q J (ee yk 0)) "k" m5 (DJ .undef cW ah f_ X aK))) (ak 0)) λpF=>Y (aV (Y (ck L p (ai (.type "range")) (bP (ak 1) (aU p .Add (H f_) (ak 1)))) λanw=>pr (jZ p (λq J=>gv L 94 Aq q J (ee yl 2)) (λq J=>eK L 94 Aq q J (ee yl 0)) ("k":Str) anw (DK .undef cW ah f_ X aK))) (ak 0)) λuq=>Y (Y (bP (eM (bP (aV (aV (aV (H X) (ns "was")) (H pF)) (H ah)) (H pF))) (eM (bP (aV (aV (aV (H X) (ns "was")) (H uq)) (H ah)) (H uq)))) r3) λanB=>ie anB λN8 N9=>b7 (b_ .Gt (aV (H N8) (ak 0)) (aV (H N9) (ak 0))) (Y (eM (bP (H N9) (H N8))) λNV=>ie NV λNW ID=>Ke L p (X) (ah) (aB) (aK) (cW) (f_) (pF) (uq) (NW) (ID) (.undef) (.undef)) (Ke L p (X) (ah) (aB) (aK) (cW) (f_) (pF) (uq) (N8) (N9) (.undef) (.undef))).bB:=by kernel_rfl
theorem Tg:c5 L 98 (aA 185).sc p t9 (ro X ah aB aK aX bg) au=(b7 (b_ .NotEq (Y (H aB) λjv=>pr (jZ p (λq J=>gv L 94 Ar q J (ee ym 2)) (λq J=>eK L 94 Ar q J (ee ym 0)) "i" jv (DL .undef ah X))) (Y (ai []) (iK p))) (Y (Y (H aB) λoK=>pr (jZ p (λq J=>gv L 93 wB q J (ee uS 2)) (λq J=>eK L 93 wB q J (ee uS 0)) "i" oK (DM .undef ah X aB))) λpD=>Y (H pD) λgA=>pr (jL L p 93 (aA 185).sc L5 Hp gA (Dk L p au) (ro X ah aB aK pD bg))) (pr (au (ro X ah aB aK aX bg)))).bB:=by kernel_rfl
theorem agG:c5 L 93 (aA 185).sc p L5 (ro X ah aB aK aX bg) au=(Y (H bg) λgu=>gT (aV (aV (H X) (ns "now")) (H aK)) (H ah) gu (pr (au (ro X ah aB aK aX bg)))).bB:=by kernel_rfl
theorem aa0:eK L 93 wB p (DM aK ah X aB) (ee uS 0)=(eM (bP (H aK) (bC L p 1356 (jw (H X) (H ah) (H aK) (H aB))))).bB:=by kernel_rfl
theorem PM:body L p 1368 [X,ah,aB,aK,aX]=(Y (b7 (b_ .Gt (ck L p (ai (.bi "len")) (bh (H aB))) (ak 1)) (aU p .Add (bC L p 1302 (bh (e_ p (bh (ck L p (ai (.bi "len")) (bh (H aB))))))) (ck L p (ai (.type "bytes")) (bh (e_ p (bh (ak 23)))))) (ai (.bytes []))) λry=>aU p .Add (aU p .Add (H ry) (bC L p 1302 (bh (aU p .Add (H aB) (H aK))))) (ck L p (ai (.type "bytes")) (bh (e_ p (bh (H aX)))))).bB:=by kernel_rfl
theorem Th:c5 L 88 (aA 189).sc p AZ (zy X ah aB aK aX bg bS cv dc eY fL gX ir gY kI) au=(Y (eM (bP (bC L p 1290 (bP (H ah) (ak 16))) (bC L p 1290 (bP (H ah) (H aB))))) λana=>ie ana λIE NX=>Y (aU p .Add (H dc) (b7 (b_ .Lt (H IE) (ak 9)) (bC L p 1373 (jw (H ah) (H cv) (H IE) (H NX))) (bC L p 1380 (jw (H ah) (H cv) (H IE) (H NX))))) λanh=>pr (au (zy X ah aB aK aX bg bS cv anh eY IE NX ir gY kI))).bB:=by kernel_rfl
end
end Mine.Q
namespace Mine.lK
structure eT where
 t:T
 eE:ay
 c9:Int
 tg:Int
 rows:List (List Nat)
set_option genCtorIdx true in
inductive qR where
 |own|now|cF|told|cD|bf|rows|src|n6 (i:Nat)|rz (i:Nat)|jF (i:Nat)|gF (i:Nat)|ex (r:ay)
structure gg where
 f:qR->ay
 g:ay->Option qR
 ex:ay->Option cw
 CQ:∀i,(∀r,i=.ex r->ex r≠none)->g (f i)=some i
 oY:∀r i,g r=some i->r=f i
noncomputable def xj (N:gg) (B:eT):List (Str×I):=[(("now":Str),.ref (N.f .now)),(("was":Str),.ref (N.f .cF)),(("rp":Str),.ref B.eE),(("told":Str),.ref (N.f .told)),("round",.int B.t.round),("touched",.ref (N.f .cD)),("cvt",.ref (N.f .bf)),("axis",.int (fP B.t.cL)),("rows",.ref (N.f .rows))]
noncomputable def s_ (q:Int×Int):List I:=[.int q.1,.int q.2]
noncomputable def uP (q:Bool×Bool):List I:=[.bool q.1,.bool q.2]
noncomputable def iE (f:Nat->ay) (n:Nat):List I:=(List.range n).map λi=>.ref (f i)
noncomputable def oF (N:gg) (B:eT):qR->Option cw
 | .own=>some (.jn (xj N B))
 | .now=>some (.list (iE (λi=>N.f (.n6 i)) B.t.now.length))
 | .cF=>some (.list (iE (λi=>N.f (.rz i)) B.t.cF.length))
 | .told=>some (.list (B.t.told.map I.int))
 | .cD=>some (.list (iE (λi=>N.f (.jF i)) B.t.cD.length))
 | .bf=>some (.list (B.t.bf.map I.int))
 | .rows=>some (.list (iE (λi=>N.f (.gF i)) B.rows.length))
 | .src=>some (.list [.int B.c9,.int B.tg])
 | .n6 i=>B.t.now[i]?.map λq=>.list (s_ q)
 | .rz i=>B.t.cF[i]?.map λq=>.list (s_ q)
 | .jF i=>B.t.cD[i]?.map λq=>.list (uP q)
 | .gF i=>B.rows[i]?.map λl=>.list (l.map bZ)
 | .ex r=>N.ex r
noncomputable def aF (N:gg) (G:bl) (B:eT):bl:=λr=>match N.g r with
 |some i=>(match oF N B i with
  |some o=>some o
  |none=>G r)
 |none=>G r
def c7 (N:gg) (q:ay):Prop:=∀i,¬q<:+N.f i
theorem c7.sub {N:gg} (h:c7 N q) (j):c7 N (j::q):=λi z=>h i ((uC j q).trans z)
section
variable {N:gg} {G bu:bl} {B bU:eT}
theorem MT {i:qR} {o:cw} (h:oF N B i=some o):N.g (N.f i)=some i:=N.CQ i λr e z=>by
 subst e;rw[show oF N B (.ex r)=N.ex r from rfl,z]at h;cases h
theorem jB {i:qR} {o:cw} (h:oF N B i=some o):aF N G B (N.f i)=some o:=by
 unfold aF;rw[MT h];dsimp only;rw[h]
theorem xe {i:qR} {o:cw} (h:oF N bU i=some o) (bH:∀j,j≠i->oF N bU j=oF N B j):(aF N G B).set (N.f i) o=aF N G bU:=by
 funext r
 unfold bl.set
 by_cases q:r=N.f i
 .rw[bT q,q,jB h]
 .rw[bX q]
  unfold aF
  cases e:N.g r with
  |none=>rfl
  |some j=>
   have:j≠i:=λz=>q (by rw[N.oY _ _ e,z])
   dsimp only
   rw[bH j this]
set_option tactic.hygienic true in
theorem VC (Z:c7 N q):jt q (aF N G B) (aF N bu bU)=aF N (jt q G bu) bU:=by
 funext r
 unfold jt
 split
 .rename_i aR
  unfold aF
  cases e:N.g r with
  |none=>dsimp only;rw[bT aR]
  |some i=>exact absurd (List.isSuffixOf_iff_suffix.mp aR) (by rw[N.oY _ _ e];exact Z i)
 .rename_i aR
  unfold aF
  cases e:N.g r with
  |none=>dsimp only;rw[bX aR]
  |some i=>
   dsimp only
   cases oF N bU i with
   |some o=>rfl
   |none=>dsimp only;rw[bX aR]
theorem gN (Z:c7 N q) (j:Nat):N.g (j::q)=none:=by
 cases e:N.g (j::q)with
 |none=>rfl
 |some i=>exact absurd (uC j q) (by rw[N.oY _ _ e];exact Z i)
theorem kE {r:ay} (h:N.g r=none):aF N G B r=G r:=by unfold aF;rw[h]
theorem HW {d:ay} {o:cw} (h:N.g d=none):(aF N G B).set d o=aF N (G.set d o) B:=by
 funext r
 unfold bl.set aF
 by_cases e:r=d
 .subst e;rw[bT rfl,h];dsimp only;rw[bT rfl]
 .rw[bX e]
  cases N.g r with
  |none=>dsimp only;rw[bX e]
  |some i=>dsimp only;rw[bX e]
theorem ue {o:cw} {j:Nat} (Z:c7 N q):(aF N G B).set (j::q) o=aF N (G.set (j::q) o) B:=HW (gN Z j)
theorem nY {x:Str} {v:I} (bJ:(xj N B).lookup x=some v):item (.ref (N.f .own)) (.str x) ⟨aF N G B,k⟩=some (v,⟨aF N G B,k⟩):=vd (jB rfl) bJ
theorem SI:(∀N G B k,item (.ref (N.f .own)) (.str "now") ⟨aF N G B,k⟩=some (.ref (N.f .now),⟨aF N G B,k⟩))/\(∀N G B k,item (.ref (N.f .own)) (.str "was") ⟨aF N G B,k⟩=some (.ref (N.f .cF),⟨aF N G B,k⟩))/\(∀N G B k,item (.ref (N.f .own)) (.str "rp") ⟨aF N G B,k⟩=some (.ref B.eE,⟨aF N G B,k⟩))/\
  (∀N G B k,item (.ref (N.f .own)) (.str "told") ⟨aF N G B,k⟩=some (.ref (N.f .told),⟨aF N G B,k⟩))/\(∀N G B k,item (.ref (N.f .own)) (.str "round") ⟨aF N G B,k⟩=some (.int B.t.round,⟨aF N G B,k⟩))/\(∀N G B k,item (.ref (N.f .own)) (.str "touched") ⟨aF N G B,k⟩=some (.ref (N.f .cD),⟨aF N G B,k⟩))/\
  (∀N G B k,item (.ref (N.f .own)) (.str "cvt") ⟨aF N G B,k⟩=some (.ref (N.f .bf),⟨aF N G B,k⟩))/\(∀N G B k,item (.ref (N.f .own)) (.str "axis") ⟨aF N G B,k⟩=some (.int (fP B.t.cL),⟨aF N G B,k⟩))/\(∀N G B k,item (.ref (N.f .own)) (.str "rows") ⟨aF N G B,k⟩=some (.ref (N.f .rows),⟨aF N G B,k⟩)):=
 ⟨λU U U U=>nY rfl,λU U U U=>nY rfl,λU U U U=>nY rfl,λU U U U=>nY rfl,λU U U U=>nY rfl,λU U U U=>nY rfl,λU U U U=>nY rfl,λU U U U=>nY rfl,λU U U U=>nY rfl⟩
theorem DP (h:i<m):(iE f m)[i]?=some (.ref (f i)):=by
 unfold iE;rw[jI,z0 h];rfl
theorem qv (aj:i<B.t.now.length) (aP:B.t.now.length<=100):item (.ref (N.f .now)) (.int (i:Nat)) ⟨aF N G B,k⟩=some (.ref (N.f (.n6 i)),⟨aF N G B,k⟩):=jz (jB rfl) (DP aj) (by omega)
theorem vq (aj:i<B.t.cF.length) (aP:B.t.cF.length<=100):item (.ref (N.f .cF)) (.int (i:Nat)) ⟨aF N G B,k⟩=some (.ref (N.f (.rz i)),⟨aF N G B,k⟩):=jz (jB rfl) (DP aj) (by omega)
theorem HY (aj:i<B.t.cD.length) (aP:B.t.cD.length<=100):item (.ref (N.f .cD)) (.int (i:Nat)) ⟨aF N G B,k⟩=some (.ref (N.f (.jF i)),⟨aF N G B,k⟩):=jz (jB rfl) (DP aj) (by omega)
theorem HS (aj:i<B.t.now.length):oF N B (.n6 i)=some (.list (s_ (B.t.now.getD i (0,0)))):=by
 show B.t.now[i]?.map _=_
 rw[kU,h7 aj];rfl
theorem UZ (aj:i<B.t.cF.length):oF N B (.rz i)=some (.list (s_ (B.t.cF.getD i (0,0)))):=by
 show B.t.cF[i]?.map _=_
 rw[kU,h7 aj];rfl
theorem HT (aj:i<B.t.cD.length):oF N B (.jF i)=some (.list (uP (B.t.cD.getD i (false,false)))):=by
 show B.t.cD[i]?.map _=_
 rw[kU,h7 aj];rfl
theorem ajV (aj:i<B.t.now.length) (b):item (.ref (N.f (.n6 i))) (.int (fP b)) ⟨aF N G B,k⟩=some (.int (d9 b (B.t.now.getD i (0,0))),⟨aF N G B,k⟩):=by
 rcases b with _|_
 .exact jz (i:=0) (jB (HS aj)) rfl (by decide)
 .exact jz (i:=1) (jB (HS aj)) rfl (by decide)
theorem ajW (aj:i<B.t.cF.length) (b):item (.ref (N.f (.rz i))) (.int (fP b)) ⟨aF N G B,k⟩=some (.int (d9 b (B.t.cF.getD i (0,0))),⟨aF N G B,k⟩):=by
 rcases b with _|_
 .exact jz (i:=0) (jB (UZ aj)) rfl (by decide)
 .exact jz (i:=1) (jB (UZ aj)) rfl (by decide)
theorem MU (aj:i<B.t.cD.length) (b):item (.ref (N.f (.jF i))) (.int (fP b)) ⟨aF N G B,k⟩=some (.bool (B.t.flag b i),⟨aF N G B,k⟩):=by
 rcases b with _|_
 .exact jz (i:=0) (jB (HT aj)) rfl (by decide)
 .exact jz (i:=1) (jB (HT aj)) rfl (by decide)
set_option tactic.hygienic true in
theorem U4 (aj:i<B.t.now.length) (b) (v):ju (.ref (N.f (.n6 i))) (.int (fP b)) (.int v) ⟨aF N G B,k⟩=some ((),⟨aF N G {B with t:={B.t with now:=B.t.now.set i (up b (B.t.now.getD i (0,0)) v)}},k⟩):=by
 have key:(aF N G B).set (N.f (.n6 i)) (.list (s_ (up b (B.t.now.getD i (0,0)) v)))=aF N G {B with t:={B.t with now:=B.t.now.set i (up b (B.t.now.getD i (0,0)) v)}}:=by
  refine xe ?_ λj aW=>?_
  .show(B.t.now.set i _)[i]?.map _=_
   rw[ET aj];rfl
  .rcases j with _|_<;>first|rfl|skip
   .show some (cw.list (iE _ (B.t.now.set i _).length))=some (cw.list (iE _ _))
    rw[B3]
   .rename_i j
    show(B.t.now.set i _)[j]?.map _=B.t.now[j]?.map _
    rw[vQ λz=>aW (by rw[z])]
 rw[<-key]
 rcases b with _|_
 .exact tn (C:=⟨aF N G B,k⟩) (i:=0) (v:=.int v) (jB (HS aj)) (by simp[s_]) (by simp[s_])
 .exact tn (C:=⟨aF N G B,k⟩) (jB (HS aj)) (by simp[s_]) (by simp[s_])
set_option tactic.hygienic true in
theorem akc (aj:i<B.t.cD.length) (b):ju (.ref (N.f (.jF i))) (.int (fP b)) (.bool true) ⟨aF N G B,k⟩=some ((),⟨aF N G {B with t:={B.t with cD:=B.t.cD.set i (BF b (B.t.cD.getD i (false,false)))}},k⟩):=by
 have key:(aF N G B).set (N.f (.jF i)) (.list (uP (BF b (B.t.cD.getD i (false,false)))))=aF N G {B with t:={B.t with cD:=B.t.cD.set i (BF b (B.t.cD.getD i (false,false)))}}:=by
  refine xe ?_ λj aW=>?_
  .show(B.t.cD.set i _)[i]?.map _=_
   rw[ET aj];rfl
  .rcases j with _|_<;>first|rfl|skip
   .show some (cw.list (iE _ (B.t.cD.set i _).length))=some (cw.list (iE _ _))
    rw[B3]
   .rename_i j
    show(B.t.cD.set i _)[j]?.map _=B.t.cD[j]?.map _
    rw[vQ λz=>aW (by rw[z])]
 rw[<-key]
 rcases b with _|_
 .exact tn (C:=⟨aF N G B,k⟩) (i:=0) (v:=.bool true) (jB (HT aj)) (by simp[uP]) (by simp[uP])
 .exact tn (C:=⟨aF N G B,k⟩) (jB (HT aj)) (by simp[uP]) (by simp[uP])
theorem lV:item (.ref (N.f .own)) (.str ("now":Str)) ⟨aF N G B,k⟩=some (.ref (N.f .now),⟨aF N G B,k⟩):=nY rfl
theorem vM:item (.ref (N.f .own)) (.str ("was":Str)) ⟨aF N G B,k⟩=some (.ref (N.f .cF),⟨aF N G B,k⟩):=nY rfl
theorem lg:item (.ref (N.f .own)) (.str ("rp":Str)) ⟨aF N G B,k⟩=some (.ref B.eE,⟨aF N G B,k⟩):=nY rfl
theorem aoN:item (.ref (N.f .own)) (.str ("told":Str)) ⟨aF N G B,k⟩=some (.ref (N.f .told),⟨aF N G B,k⟩):=nY rfl
theorem Ov:item (.ref (N.f .own)) (.str ("round":Str)) ⟨aF N G B,k⟩=some (.int B.t.round,⟨aF N G B,k⟩):=nY rfl
theorem IW:item (.ref (N.f .own)) (.str ("touched":Str)) ⟨aF N G B,k⟩=some (.ref (N.f .cD),⟨aF N G B,k⟩):=nY rfl
theorem IX:item (.ref (N.f .own)) (.str ("cvt":Str)) ⟨aF N G B,k⟩=some (.ref (N.f .bf),⟨aF N G B,k⟩):=nY rfl
theorem vN:item (.ref (N.f .own)) (.str ("axis":Str)) ⟨aF N G B,k⟩=some (.int (fP B.t.cL),⟨aF N G B,k⟩):=nY rfl
theorem aoO:item (.ref (N.f .own)) (.str ("rows":Str)) ⟨aF N G B,k⟩=some (.ref (N.f .rows),⟨aF N G B,k⟩):=nY rfl
theorem Ak {e:Q.bF I} (Z:c7 N (k::p)) (bI:sQ a=false) (aP:body (aJ c) (k::p) a aa=e.bB) (eL:Q.go (e.cps Q.ret) ⟨aF N G B,0⟩=some (v,aF N bu bU)):
  aJ (c+1) p a aa ⟨aF N G B,k⟩=some (v,⟨aF N (jt (k::p) G bu) bU,k+1⟩):=by
 rw[Q.uT bI aP eL,VC Z]
theorem Kx {e:Q.bF I} (Z:c7 N (k::p)) (bI:sQ a=false) (aP:body (aJ c) (k::p) a aa=e.bB) (eL:Q.go (e.cps Q.ret) ⟨aF N G B,0⟩=some (v,aF N G bU)):
  aJ (c+1) p a aa ⟨aF N G B,k⟩=some (v,⟨aF N G bU,k+1⟩):=by
 rw[Ak Z bI aP eL,p8]
theorem T.cG.k9 {t:T} (F:t.cG m) (h:i<m):i<t.cD.length:=F.cD▸h
theorem T.cG.Iz {t:T} (F:t.cG m):t.cD.length<=100:=F.cD▸d5 F.ia (by decide)
theorem vt (aj:i<B.t.now.length):item (.ref (N.f (.n6 i))) (.int (fP b)) ⟨aF N G B,k⟩=some (.int (d9 b (B.t.now.getD i (0,0))),⟨aF N G B,k⟩):=ajV aj b
theorem zo (aj:i<B.t.cF.length):item (.ref (N.f (.rz i))) (.int (fP b)) ⟨aF N G B,k⟩=some (.int (d9 b (B.t.cF.getD i (0,0))),⟨aF N G B,k⟩):=ajW aj b
theorem aov (aj:i<B.t.now.length):Q.j3 (ju (.ref (N.f (.n6 i))) (.int (fP b)) (.int v)) ⟨aF N G B,k⟩=some (.none,⟨aF N G {B with t:={B.t with now:=B.t.now.set i (up b (B.t.now.getD i (0,0)) v)}},k⟩):=Q.gy (U4 aj b v)
theorem aow (aj:i<B.t.cD.length):Q.j3 (ju (.ref (N.f (.jF i))) (.int (fP b)) (.bool true)) ⟨aF N G B,k⟩=some (.none,⟨aF N G {B with t:={B.t with cD:=B.t.cD.set i (BF b (B.t.cD.getD i (false,false)))}},k⟩):=Q.gy (akc aj b)
theorem uc (Z:c7 N (k::p)) (F:B.t.cG m) (aj:i<m) (d):aJ (n+1) p 1330 [.ref (N.f .own),.int i,.int d] ⟨aF N G B,k⟩=some (.none,⟨aF N G {B with t:=B.t.go i d},k+1⟩):=by
 refine Kx Z rfl (Q.Y0 _ _ _ _ _) ?_
 exact Q.B lV<|Q.B (qv (F.ak aj) F.dM)<|Q.B vN<|Q.B (vt (F.ak aj))<|Q.B lV<|Q.B (qv (F.ak aj) F.dM)<|Q.B vN<|Q.B (aov (F.ak aj))<|Q.B IW<|Q.B (HY (F.k9 aj) F.Iz)<|Q.B vN<|Q.B (aow (F.k9 aj))<|rfl
theorem zj (F:B.t.cG m) (aj:i<m) (aW:j<m):aJ (n+1) p 1337 [.ref (N.f .own),.int i,.int j,.str "now"] ⟨aF N G B,k⟩=some (.int (B.t.P i -B.t.P j),⟨aF N G B,k+1⟩):=by
 refine jM rfl (Q.PK _ _ _ _ _ _) ?_
 exact Q.B lV<|Q.B (qv (F.ak aj) F.dM)<|Q.B vN<|Q.B (vt (F.ak aj))<|Q.B lV<|Q.B (qv (F.ak aW) F.dM)<|Q.B vN<|Q.B (vt (F.ak aW))<|rfl
theorem Dz (F:B.t.cG m) (aj:i<m) (aW:j<m):aJ (n+1) p 1337 [.ref (N.f .own),.int i,.int j,.str "was"] ⟨aF N G B,k⟩=some (.int (B.t.O i -B.t.O j),⟨aF N G B,k+1⟩):=by
 refine jM rfl (Q.PK _ _ _ _ _ _) ?_
 exact Q.B vM<|Q.B (vq (F.gH aj) F.k_)<|Q.B vN<|Q.B (zo (F.gH aj))<|Q.B vM<|Q.B (vq (F.gH aW) F.k_)<|Q.B vN<|Q.B (zo (F.gH aW))<|rfl
end
theorem RB {x:Int} (h:0<x):x.fdiv (2*x)=0:=by
 rw[EN _ (by omega)]
 exact Int.ediv_eq_zero_of_lt (by omega) (by omega)
theorem Uj (a b c):ic a b c=ic (a*b) 1 c:=by unfold ic;rw[Int.mul_one]
theorem adp:((List.range 32).all λg=>[4,8,16].all λd=>(decide ((((g:Nat):Int).fdiv (d:Nat)).fmod 2=1)==eF g d))=true:=by kernel_rfl
theorem AG (h:g<32) (hd:d∈[4,8,16]):decide ((((g:Nat):Int).fdiv (d:Nat)).fmod 2=1)=eF g d:=
 beq_iff_eq.mp (List.all_eq_true.mp (List.all_eq_true.mp adp g (List.mem_range.mpr h)) d hd)
section
variable {N:gg} {G bu:bl} {B bU:eT}
theorem Z2:Q.dK (dX .Eq (.bool true) (.bool true)) C=some (.bool true,C):=rfl
theorem Z3:Q.dK (dX .Eq (.bool false) (.bool false)) C=some (.bool true,C):=rfl
theorem Z4:Q.dK (dX .Eq (.bool true) (.bool false)) C=some (.bool false,C):=rfl
theorem Z5:Q.dK (dX .Eq (.bool false) (.bool true)) C=some (.bool false,C):=rfl
theorem Pu:fz L p (.bi "abs") [.int x] C=some (.int (if x<0 then -x else x),C):=rfl
theorem mh (h:b≠0) (az:-100000<b) (aE:b<1000000):fk p .FloorDiv (.int a) (.int b) C=some (.int (a.fdiv b),C):=eZ (yh h (lX (by decide) az) (lX aE (by decide))) C
theorem r4 (h:a.natAbs<5):fk p .Mult (.int a) (.int b) C=some (.int (a*b),C):=eZ (Fq (sY (by omega) (by omega))) C
noncomputable def we (x:Int):Int:=if x<0 then -x else x
theorem ai3 (cj:b≠0):(if(t<0↔b<0)then 1 else -1)*(2*we t+we b).fdiv (2*we b)=ic t 1 b:=by
 unfold ic we
 rw[Int.mul_one]
 by_cases aP:b<0
 .simp only[aP,jW,iff_true]
  by_cases bY:t<0
  .rw[bT bY,bT bY,bX (by omega),Int.one_mul,show 2*-t+-b=2*(0 -t)+(0 -b) by omega,show 2*-b=2*(0 -b) by omega]
  .rw[bX bY,bX bY]
   by_cases hz:t=0
   .subst hz
    rw[bX (by decide),show 2*0+-b=-b by omega,show 2*(0 -0)+(0 -b)=0 -b by omega,RB (by omega),RB (by omega)];rfl
   .rw[bT (by omega),show 2*t+-b=0 -2*(0 -t)+(0 -b) by omega,show 2*-b=2*(0 -b) by omega];omega
 .simp only[aP,xN,iff_false]
  by_cases bY:t<0
  .rw[bT bY,bX (not_not_intro bY),bT bY,show 2*-t+b=0 -2*t+b by omega];omega
  .rw[bX bY,bT bY,bX bY,Int.one_mul]
theorem SY (t b) (cj:b≠0) (az:-100000<b) (aE:b<100000):aJ (n+1) p 1309 [.int t,.int b] C=some (.int (ic t 1 b),⟨C.h,C.k+1⟩):=by
 refine jM rfl (Q.YX _ _ _ _) ?_
 have aP:2*we b≠0/\-100000<2*we b/\2*we b<1000000:=by unfold we;split<;>omega
 rw[<-ai3 cj]
 by_cases bY:t<0<;>by_cases bG:b<0
 .rw[bT ⟨λU=>bG,λU=>bY⟩];exact Q.B (Q.j_ bY)<|Q.B (Q.j_ bG)<|Q.B Z2<|Q.B rfl<|Q.B (r4 (by decide))<|Q.B rfl<|Q.B rfl<|Q.B (r4 (by decide))<|Q.B (mh aP.1 aP.2.1 aP.2.2)<|Q.B (r4 (by decide))<|rfl
 .rw[bX λz=>bG (z.mp bY)];exact Q.B (Q.j_ bY)<|Q.B (Q.kQ bG)<|Q.B Z4<|Q.B rfl<|Q.B (r4 (by decide))<|Q.B rfl<|Q.B rfl<|Q.B (r4 (by decide))<|Q.B (mh aP.1 aP.2.1 aP.2.2)<|Q.B (r4 (by decide))<|rfl
 .rw[bX λz=>bY (z.mpr bG)];exact Q.B (Q.kQ bY)<|Q.B (Q.j_ bG)<|Q.B Z5<|Q.B rfl<|Q.B (r4 (by decide))<|Q.B rfl<|Q.B rfl<|Q.B (r4 (by decide))<|Q.B (mh aP.1 aP.2.1 aP.2.2)<|Q.B (r4 (by decide))<|rfl
 .rw[bT ⟨λz=>absurd z bY,λz=>absurd z bG⟩];exact Q.B (Q.kQ bY)<|Q.B (Q.kQ bG)<|Q.B Z3<|Q.B rfl<|Q.B (r4 (by decide))<|Q.B rfl<|Q.B rfl<|Q.B (r4 (by decide))<|Q.B (mh aP.1 aP.2.1 aP.2.2)<|Q.B (r4 (by decide))<|rfl
theorem V1 {r:ay} (h:C.h r=some (.cB l)) (hz:l.length<1000):ju (.ref r) (.int c) v C=some ((),⟨C.h.set r (.cB (g9 l c v)),C.k⟩):=by
 show Y (obj r) (D4 r c v) C=_
 simp only[Y,obj,D4,h,iU hz,jW,upd]
theorem q9 (az:-100000<b) (aE:b<100000):fk p .Mult (.int a) (.int b) C=some (.int (a*b),C):=eZ (Fq (sZ (lX (by decide) az) (lX aE (by decide)))) C
theorem Ic {r:ay} (fc:N.g r=none) (hz:l.length<1000):Q.j3 (ju (.ref r) (.int c) v) ⟨aF N (G.set r (.cB l)) B,k⟩=some (.none,⟨aF N (G.set r (.cB (g9 l c v))) B,k⟩):=Q.gy (by
 rw[V1 ((kE fc).trans cP) hz,HW fc,xy])
theorem La {r:ay} (fc:N.g r=none) (h:l.lookup c=some v):item (.ref r) (.int c) ⟨aF N (G.set r (.cB l)) B,k⟩=some (v,⟨aF N (G.set r (.cB l)) B,k⟩):=GS ((kE fc).trans cP) h
theorem gV (Z:c7 N q):new q o ⟨aF N G B,k⟩=some (.ref (k::q),⟨aF N (G.set (k::q) o) B,k+1⟩):=by
 rw[<-ue Z];rfl
noncomputable def VK (s:Int):List (Int×I):=g9 (g9 [(24,.int ((s+32).fdiv 64*64)),(25,.int (s.fdiv 64*64+32)),(61,.int ((s+16).fdiv 32*32)),(125,.int (s.fdiv 64*64))] 124 (.int ((s+63).fdiv 64*64))) 122 (.int s)
theorem VL (aN:l6 c) (s):(VK s).lookup c=some (.int (DX c s)):=by
 unfold l6 at aN
 rcases aN with rfl|rfl|rfl|rfl|rfl|rfl<;>rfl
theorem HQ (Z:c7 N (k::p)) (aN:l6 B.t.round) d:aJ (n+1) p 1316 [.ref (N.f .own),.int d] ⟨aF N G B,k⟩=some (.int (gG B.t.round d),⟨aF N G B,k+1⟩):=by
 have mj:=gN Z 0
 refine(Ak (bu:=G.set (0::k::p) (.cB (VK (if d<0 then -d else d)))) Z rfl (Q.YY _ _ _ _) ?_).trans (by rw[vv,p8])
 unfold gG
 rw[<-show(if d<0 then -d else d)=d.natAbs by split<;>omega]
 by_cases hd:0<=d
 .rw[bT hd]
  exact Q.B rfl<|Q.B (mh (by decide) (by decide) (by decide))<|Q.B (q9 (by decide) (by decide))<|Q.B (mh (by decide) (by decide) (by decide))<|Q.B (q9 (by decide) (by decide))<|Q.B (mh (by decide) (by decide) (by decide))<|Q.B (q9 (by decide) (by decide))<|Q.B (mh (by decide) (by decide) (by decide))<|Q.B (q9 (by decide) (by decide))<|Q.B (gV Z)<|Q.B (mh (by decide) (by decide) (by decide))<|Q.B (q9 (by decide) (by decide))<|Q.B (Ic mj (show 4<1000 by decide))<|Q.B (Ic mj (show 5<1000 by decide))<|Q.B (Q.pT hd)<|Q.B Ov<|Q.B (La mj (VL aN _))<|rfl
 .rw[bX hd]
  exact Q.B rfl<|Q.B (mh (by decide) (by decide) (by decide))<|Q.B (q9 (by decide) (by decide))<|Q.B (mh (by decide) (by decide) (by decide))<|Q.B (q9 (by decide) (by decide))<|Q.B (mh (by decide) (by decide) (by decide))<|Q.B (q9 (by decide) (by decide))<|Q.B (mh (by decide) (by decide) (by decide))<|Q.B (q9 (by decide) (by decide))<|Q.B (gV Z)<|Q.B (mh (by decide) (by decide) (by decide))<|Q.B (q9 (by decide) (by decide))<|Q.B (Ic mj (show 4<1000 by decide))<|Q.B (Ic mj (show 5<1000 by decide))<|Q.B (Q.nV hd)<|Q.B Ov<|Q.B (La mj (VL aN _))<|rfl
set_option tactic.hygienic true in
theorem afK (d o):aJ (n+1) p 1323 [.int d,.int o] C=some (.int (rM d o),⟨C.h,C.k+1⟩):=by
 refine jM rfl (Q.YZ _ _ _ _) ?_
 unfold rM
 by_cases h:0<=o
 .rw[bT h,show(if 64<=d then d else 64)=(if d<64 then 64 else d) by split<;>split<;>omega]
  exact Q.B (Q.pT h)<|Q.B rfl<|Q.B rfl<|rfl
 .rw[bX h,show(if d<=-64 then d else -64)=(if -64<d then -64 else d) by split<;>split<;>omega]
  exact Q.B (Q.nV h)<|Q.B rfl<|Q.B rfl<|rfl
theorem Nj {q r:ay} (aQ:¬q<:+r):jt q h (h.set r o)=h.set r o:=by
 funext x
 unfold jt bl.set
 split
 .rename_i aR
  rw[bX λe=>aQ (by rw[<-e];exact List.isSuffixOf_iff_suffix.mp aR)]
 .rfl
theorem IM (e:h src=some (.list [.int a,.int b])):item (.ref src) (.int 0) ⟨h,k⟩=some (.int a,⟨h,k⟩):=jz e rfl (by decide)
theorem Od (e:h src=some (.list [.int a,.int b])):item (.ref src) (.int 1) ⟨h,k⟩=some (.int b,⟨h,k⟩):=jz e rfl (by decide)
theorem anI (e:h src=some (.list [.int a,.int b])):Q.j3 (ju (.ref src) (.int 0) (.int v)) ⟨h,k⟩=some (.none,⟨h.set src (.list [.int v,.int b]),k⟩):=Q.gy (tn (C:=⟨h,k⟩) e (show 0<2 by decide) (show 2<=100000 by decide))
theorem anJ (e:h src=some (.list [.int a,.int b])):Q.j3 (ju (.ref src) (.int 1) (.int v)) ⟨h,k⟩=some (.none,⟨h.set src (.list [.int a,.int v]),k⟩):=Q.gy (tn (C:=⟨h,k⟩) e (show 1<2 by decide) (show 2<=100000 by decide))
theorem amo (b:Int):mV (b.fmod 2147483647) (b.fmod 2147483647)=true:=by
 have cj:=Jg b (show 2147483647≠0 by decide)
 have az:=Int.emod_lt_of_pos b (show 0<2147483647 by decide)
 rw[<-xO _ (by decide)]at cj az
 exact sY (by omega) (by omega)
theorem AX (aR:C.h src=some (.list [.int a,.int b])) (bG:¬(C.k::p)<:+src) (az:0<gm) (aE:gm<100000):
  ∃(v:Nat) (dB fM:Int),aJ (n+1) p 1290 [.ref src,.int gm] C=some (.int v,⟨C.h.set src (.list [.int dB,.int fM]),C.k+1⟩)/\(v:Nat)<gm:=by
 have cu:∀x:Int,0<=x.fmod gm/\x.fmod gm<gm:=λx=>by
  rw[xO _ (Int.le_of_lt az)]
  exact⟨Jg _ (Int.ne_of_gt az),Int.emod_lt_of_pos _ az⟩
 have cast:∀x:Int,(((x.fmod gm).toNat:Nat):Int)=x.fmod gm:=λx=>I5 (cu x).1
 have jD:=Int.ne_of_gt az
 have fC:-100000<gm:=lX (by decide) az
 have b6:gm<1000000:=lX aE (by decide)
 obtain⟨h,k⟩:=C
 by_cases aY:0<a
 .refine⟨(a.fmod gm).toNat,a.fdiv gm,b,?_,by rw[cast];exact(cu a).2⟩
  rw[cast]
  refine(Q.uT rfl (Q.PJ _ _ _ _) ?_).trans (by rw[Nj bG])
  exact Q.B (IM aR)<|Q.B (Q.wQ aY)<|Q.B (IM aR)<|Q.B (Q.n4 jD)<|Q.B (IM aR)<|Q.B (mh jD fC b6)<|Q.B (anI aR)<|rfl
 .refine⟨((((b*39373+7).fmod 2147483647*(b*39373+7).fmod 2147483647).fmod 2147483629).fdiv 32 |>.fmod gm).toNat,a,(b*39373+7).fmod 2147483647,?_,by rw[cast];exact(cu _).2⟩
  rw[cast]
  refine(Q.uT rfl (Q.PJ _ _ _ _) ?_).trans (by rw[Nj bG])
  exact Q.B (IM aR)<|Q.B (Q.uZ aY)<|Q.B (Od aR)<|Q.B (q9 (by decide) (by decide))<|Q.B (Q.n4 (by decide))<|Q.B (anJ aR)<|Q.B (Od cP)<|Q.B (Od cP)<|Q.B (Q.o_ (amo _))<|Q.B (Q.n4 (by decide))<|Q.B (mh (by decide) (by decide) (by decide))<|Q.B (Q.n4 jD)<|rfl
end
structure gS (N:gg) (G:bl) (B:eT):Prop where
 at_:G B.eE=some (.list [bZ B.t.cI,bZ B.t.cT,bZ B.t.dO])
 g:N.g B.eE=none
section
variable {N:gg} {G bu:bl} {B bU:eT}
theorem xx {af:eT} (h:gS N G B) (x):item (.ref B.eE) (.int 0) ⟨aF N G af,x⟩=some (bZ B.t.cI,⟨aF N G af,x⟩)/\item (.ref B.eE) (.int 1) ⟨aF N G af,x⟩=some (bZ B.t.cT,⟨aF N G af,x⟩)/\item (.ref B.eE) (.int 2) ⟨aF N G af,x⟩=some (bZ B.t.dO,⟨aF N G af,x⟩):=
 ⟨jz ((kE h.g).trans h.at_) rfl (by decide),jz ((kE h.g).trans h.at_) rfl (by decide),jz ((kE h.g).trans h.at_) rfl (by decide)⟩
theorem al3 (r):ju (.ref (N.f .own)) (.str "rp") (.ref r) ⟨aF N G B,k⟩=some ((),⟨aF N G {B with eE:=r},k⟩):=by
 have e:aF N G B (N.f .own)=some (.jn (xj N B)):=jB rfl
 have bK:decide ((xj N B).length<1000)=true:=rfl
 show Y (obj _) _ _=_
 simp only[Y,obj,sF,e,bK,jW,upd]
 refine cJ (λh=>some ((),bL.mk h k)) ?_
 exact xe rfl λj aW=>by cases j<;>first|rfl|exact absurd rfl aW
noncomputable def DW (G:bl) (r:ay) (t:T):bl:=G.set r (.list [bZ t.cI,bZ t.cT,bZ t.dO])
theorem aM {P:Option (I×bl)->Prop} (h:Q.hd c C=some (v,aT)) (r:P (Q.go (Q.vo c v) aT)):P (Q.go c C):=(Q.B h rfl).symm▸r
theorem t_ (Z:c7 N q):iK q [a,b,c] ⟨aF N G B,k⟩=some (.ref (k::q),⟨aF N (G.set (k::q) (.list [a,b,c])) B,k+1⟩):=gV Z
theorem BK {r:ay}:Q.j3 (ju (.ref (N.f .own)) (.str "rp") (.ref r)) ⟨aF N G B,k⟩=some (.none,⟨aF N G {B with eE:=r},k⟩):=Q.gy (al3 r)
def xY (N:gg) (G:bl) (B:eT) (q:ay) (t:T) (R:Option (I×bl)):Prop:=∃j,R=some (.none,aF N (DW G (j::q) t) {B with t:=t,eE:=j::q})
section
theorem VW (Z:c7 N q) (F:B.t.cG m) (aj:i<m) (cj:B.t.cI<m) (iJ:decide ((((g:Nat):Int).fdiv 16).fmod 2=1)=oX):
  xY N G B q ((B.t.go i (w -(B.t.P i -B.t.P B.t.cI))).tf i oX) (Q.go ((Q.Kc (aJ (n+1)) q (.ref (N.f .own)) (.int i) aB (.int g) (.int B.t.cI) (.int o) (.int w)).cps Q.ret) ⟨aF N G B,x⟩):=by
 refine aM (zj F aj cj)<|aM (uc (Z.sub _) F aj _)<|aM (mh (by decide) (by decide) (by decide))<|aM (Q.n4 (by decide))<|aM (Q.iz iJ) ?_
 cases oX<;>exact aM (t_ Z)<|aM BK<|⟨_,rfl⟩
theorem s2 (Z:c7 N q) (F:B.t.cG m) (aj:i<m) (cj:B.t.cI<m) (jg:decide ((((g:Nat):Int).fdiv 8).fmod 2=1)=pR) (iJ:decide ((((g:Nat):Int).fdiv 16).fmod 2=1)=oX):
  xY N G B q ((B.t.go i ((if pR then rM w o else w) -(B.t.P i -B.t.P B.t.cI))).tf i oX) (Q.go ((Q.Ka (aJ (n+1)) q (.ref (N.f .own)) (.int i) aB (.int g) (.int B.t.cI) (.int o) (.int w)).cps Q.ret) ⟨aF N G B,x⟩):=by
 refine aM (mh (by decide) (by decide) (by decide))<|aM (Q.n4 (by decide))<|aM (Q.iz jg) ?_
 cases pR
 .exact VW Z F aj cj iJ
 .exact aM (afK w o)<|VW Z F aj cj iJ
theorem NH (Z:c7 N q) (F:B.t.cG m) (aN:l6 B.t.round) (aj:i<m) (cj:B.t.cI<m) (jg:decide ((((g:Nat):Int).fdiv 8).fmod 2=1)=pR) (iJ:decide ((((g:Nat):Int).fdiv 16).fmod 2=1)=oX):
  xY N G B q ((B.t.go i ((if pR then rM (gG B.t.round w) o else gG B.t.round w) -(B.t.P i -B.t.P B.t.cI))).tf i oX) (Q.go ((Q.Kd (aJ (n+1)) q (.ref (N.f .own)) (.int i) aB (.int g) (.int B.t.cI) (.int o) (.int w)).cps Q.ret) ⟨aF N G B,x⟩):=
 aM (HQ (Z.sub _) aN w)<|s2 Z F aj cj jg iJ
theorem alV (Z:c7 N q) (F:B.t.cG m) (aN:l6 B.t.round) (aj:i<m) (cj:B.t.cI<m) (cH:decide ((((g:Nat):Int).fdiv 4).fmod 2=1)=lu) (jg:decide ((((g:Nat):Int).fdiv 8).fmod 2=1)=pR) (iJ:decide ((((g:Nat):Int).fdiv 16).fmod 2=1)=oX):
  xY N G B q ((B.t.go i ((if pR then rM (if lu then gG B.t.round w else w) o else(if lu then gG B.t.round w else w)) -(B.t.P i -B.t.P B.t.cI))).tf i oX) (Q.go ((Q.Fy (aJ (n+1)) q (.ref (N.f .own)) (.int i) .none (.int g) (.int B.t.cI) (.int o) (.int w)).cps Q.ret) ⟨aF N G B,x⟩):=by
 refine aM (mh (by decide) (by decide) (by decide))<|aM (Q.n4 (by decide))<|aM (Q.iz cH) ?_
 rcases lu with _|_
 .exact s2 Z F aj cj jg iJ
 .exact aM (Q.iC rfl)<|NH Z F aN aj cj jg iJ
theorem Im {v:Int} (Z:c7 N q) (F:B.t.cG m) (aN:l6 B.t.round) (aj:i<m) (cj:B.t.cI<m) (cH:decide ((((g:Nat):Int).fdiv 4).fmod 2=1)=lu) (jg:decide ((((g:Nat):Int).fdiv 8).fmod 2=1)=pR) (iJ:decide ((((g:Nat):Int).fdiv 16).fmod 2=1)=oX):
  xY N G B q ((B.t.go i ((if pR then rM (if lu then gG B.t.round (if 68<((w -o).natAbs:Int)then o else w)else w) o else(if lu then gG B.t.round (if 68<((w -o).natAbs:Int)then o else w)else w)) -(B.t.P i -B.t.P B.t.cI))).tf i oX) (Q.go ((Q.Fy (aJ (n+1)) q (.ref (N.f .own)) (.int i) (.int v) (.int g) (.int B.t.cI) (.int o) (.int w)).cps Q.ret) ⟨aF N G B,x⟩):=by
 refine aM (mh (by decide) (by decide) (by decide))<|aM (Q.n4 (by decide))<|aM (Q.iz cH) ?_
 rcases lu with _|_
 .exact s2 Z F aj cj jg iJ
 .refine aM (Q.iC rfl)<|aM Pu ?_
  rw[<-show(if w -o<0 then -(w -o)else w -o)=((w -o).natAbs:Int) by split<;>omega]
  by_cases h:68<(if w -o<0 then -(w -o)else w -o)
  .rw[bT h];exact aM (Q.wQ h)<|NH Z F aN aj cj jg iJ
  .rw[bX h];exact aM (Q.uZ h)<|NH Z F aN aj cj jg iJ
end
theorem US (Z:c7 N (k::p)) (aQ:gS N G B) (F:B.t.cG m) (aN:l6 B.t.round) (aj:i<m) (cj:B.t.cI<m) {g:Nat} (g5:g<32):
  ∃j,aJ (n+2) p 1344 [.ref (N.f .own),.int (i:Nat),.none,.int (g:Nat)] ⟨aF N G B,k⟩=some (.none,⟨aF N (DW G (j::k::p) (B.t.mU i (eF g 4) (eF g 8) (eF g 16))) {B with t:=B.t.mU i (eF g 4) (eF g 8) (eF g 16),eE:=j::k::p},k+1⟩):=by
 have key:xY N G B (k::p) (B.t.mU i (eF g 4) (eF g 8) (eF g 16)) (Q.go ((Q.J' (aJ (n+1)) (k::p) (.ref (N.f .own)) (.int (i:Nat)) .none (.int g)).cps Q.ret) ⟨aF N G B,0⟩):=
  aM lg<|aM (xx aQ _).1<|aM lg<|aM (xx aQ _).1<|aM (Dz F aj cj)<|aM (Q.iC rfl)<|aM (Q.iC rfl)<|alV Z F aN aj cj (AG g5 (by decide)) (AG g5 (by decide)) (AG g5 (by decide))
 exact key.imp λj e=>Q.qh rfl (Q.PL _ _ _ _ _ _) e
theorem ajw (Z:c7 N (k::p)) (aQ:gS N G B) (F:B.t.cG m) (aN:l6 B.t.round) (aj:i<m) (cj:B.t.cI<m) (g5:g<32) v:
  ∃j,aJ (n+2) p 1344 [.ref (N.f .own),.int i,.int v,.int (g:Nat)] ⟨aF N G B,k⟩=some (.none,⟨aF N (DW G (j::k::p) (B.t.o9 i v (eF g 4) (eF g 8) (eF g 16))) {B with t:=B.t.o9 i v (eF g 4) (eF g 8) (eF g 16),eE:=j::k::p},k+1⟩):=by
 have cH:=AG (d:=4) g5 (by decide)
 have jg:=AG (d:=8) g5 (by decide)
 have iJ:=AG (d:=16) g5 (by decide)
 have key:xY N G B (k::p) (B.t.o9 i v (eF g 4) (eF g 8) (eF g 16)) (Q.go ((Q.J' (aJ (n+1)) (k::p) (.ref (N.f .own)) (.int i) (.int v) (.int g)).cps Q.ret) ⟨aF N G B,0⟩):=by
  refine aM lg<|aM (xx aQ _).1<|aM lg<|aM (xx aQ _).1<|aM (Dz F aj cj)<|aM (Q.iC rfl)<|aM (Q.iC rfl) ?_
  unfold T.o9 Ff
  by_cases a:B.t.O i -B.t.O B.t.cI<0<;>by_cases b:v<0
  .rw[iU a,iU b]
   exact aM (Q.j_ a)<|aM (Q.j_ b)<|aM (Q.iC rfl)<|Im Z F aN aj cj cH jg iJ
  .rw[iU a,qc b]
   exact aM (Q.j_ a)<|aM (Q.kQ b)<|aM (Q.iC rfl)<|Im Z F aN aj cj cH jg iJ
  .rw[qc a,iU b]
   exact aM (Q.kQ a)<|aM (Q.j_ b)<|aM (Q.iC rfl)<|Im Z F aN aj cj cH jg iJ
  .rw[qc a,qc b]
   exact aM (Q.kQ a)<|aM (Q.kQ b)<|aM (Q.iC rfl)<|Im Z F aN aj cj cH jg iJ
 exact key.imp λj e=>Q.qh rfl (Q.PL _ _ _ _ _ _) e
end
theorem HM {b9:Type} {body:aL->(aL->aD I)->aD I} {K:aL->aD I} {R:I->b9->aL} {af:T->eT} {cZ:T->Prop} {aC:List Nat} {r:ay} {N:gg} {G:bl}
  (aQ:N.g r=none) (cO:G r=some (.list (aC.map bZ)))
  (nC:∀w v u au,gr u (R w v) au=au (R u v))
  (aP:∀v t i k au,cZ t->i∈aC->∃fU,body (R (bZ i) v) au ⟨aF N G (af t),k⟩=au (R (bZ i) fU) ⟨aF N G (af (f t i)),k+c⟩)
  (ow:∀t i,cZ t->i∈aC->cZ (f t i)):
  ∀d t k w v dY fS,cZ t->fS+d=aC.length->d<dY->
   ∃ig fU,gP body gr (.ref r) K dY fS (R w v) ⟨aF N G (af t),k⟩=K (R ig fU) ⟨aF N G (af ((aC.drop fS).foldl f t)),k+c*d⟩:=
 Q.fold (λt k j=>Dy ((kE aQ).trans cO) j) nC aP ow
noncomputable def Nk (N:gg) (r:ay) (a b:Nat) (w jr:Int) (u v:I):aL:=[("own",.ref (N.f .own)),("points",.ref r),("first",.int (a:Nat)),("last",.int (b:Nat)),("whole",.int w),("now",.int jr),("i",u),("d",v)]
section
variable {N:gg} {G bu:bl} {B bU:eT}
theorem zk {r:ay} (aQ:N.g r=none) (cO:G r=some (.list aa)) (af) (x):jP (.ref r) ⟨aF N G af,x⟩=some ((),⟨aF N G af,x⟩):=by
 show Y (obj r) _ _=_
 simp only[Y,obj,(kE aQ).trans cO,ai]
theorem VS {af:eT} (h:gS N G B):item (.ref B.eE) (.int 1) ⟨aF N G af,k⟩=some (.int (B.t.cT:Nat),⟨aF N G af,k⟩):=(xx h k).2.1
theorem Ik {af:eT} (h:gS N G B):item (.ref B.eE) (.int 2) ⟨aF N G af,k⟩=some (.int (B.t.dO:Nat),⟨aF N G af,k⟩):=(xx h k).2.2
theorem Z7 (Z:c7 N q) {r:ay} {W sC:Int} (F:t.cG m) (aj:i<m) (aY:a<m) (aQ:t.cT=a) (f6:-6000<t.O i -t.O a/\t.O i -t.O a<6000) (nA:-3000<W/\W<3000):
  ∃fU,c5 (aJ (n+1)) 96 (aA 183).sc q L4 (Nk N r a b W sC (bZ i) v) au ⟨aF N G {B with t:=t},bq⟩=au (Nk N r a b W sC (bZ i) fU) ⟨aF N G {B with t:=T.nX W sC t i},bq+(if W=0 then 3 else 4)⟩:=by
 subst aQ
 unfold T.nX
 by_cases hz:W=0
 .rw[bT hz,bT hz]
  exact⟨.int (t.O i -t.O t.cT),Q.iF (Q.Tf ..)<|Q.bx (Dz F aj aY)<|Q.bx (Q.ua hz)<|Q.bx (zj F aj aY)<|Q.bx (uc (Z.sub _) F aj _) Q.fin⟩
 .rw[bX hz,bX hz,Uj]
  exact⟨.int (ic ((t.O i -t.O t.cT)*sC) 1 W),Q.iF (Q.Tf ..)<|Q.bx (Dz F aj aY)<|Q.bx (Q.neT hz)<|Q.bx (Q.o_ (sY (lX (by decide) f6.1) (lX f6.2 (by decide))))<|Q.bx (SY _ W hz (lX (by decide) nA.1) (lX nA.2 (by decide)))<|Q.bx (zj F aj aY)<|Q.bx (uc (Z.sub _) F aj _) Q.fin⟩
theorem ajr (Z:c7 N (k::p)) (aQ:gS N G B) (F:B.t.cG m) (sL:B.t.lZ) {r:ay} {aC:List Nat} (fc:N.g r=none) (cO:G r=some (.list (aC.map bZ))) (d8:∀i∈aC,i<m) (wW:aC.length<100) (az:B.t.cT<m) (aE:B.t.dO<m):
  aJ (n+2) p 1351 [.ref (N.f .own),.ref r] ⟨aF N G B,k⟩=some (.none,⟨aF N G {B with t:=aC.foldl (T.nX (B.t.O B.t.dO -B.t.O B.t.cT) (B.t.P B.t.dO -B.t.P B.t.cT)) B.t},k+1⟩):=by
 refine iu λaH ez=>?_
 have bd:∀i j,-3000<B.t.O i -B.t.O j/\B.t.O i -B.t.O j<3000:=λi j=>by
  have apx:=sL B.t.cL i
  have apy:=sL B.t.cL j
  unfold T.O;omega
 obtain⟨ig,fU,h⟩:=HM (R:=Nk N r B.t.cT B.t.dO (B.t.O B.t.dO -B.t.O B.t.cT) (B.t.P B.t.dO -B.t.P B.t.cT)) (cZ:=λt=>t.cG m/\t.cT=B.t.cT/\t.cF=B.t.cF/\t.cL=B.t.cL)
  fc cO (λw v u au=>ahA ..)
  (λv t i bq au g aj=>Z7 Z g.1 (d8 i aj) az g.2.1 (by
   have:=bd i B.t.cT
   unfold T.O at this ⊢
   rw[g.2.2.1,g.2.2.2]
   exact⟨lX (by decide) this.1,lX this.2 (by decide)⟩) (bd _ _))
  (λt i g aj=>⟨g.1.go _ _,g.2⟩) aC.length B.t 2 .undef .undef 1000 0 ⟨F,rfl,rfl,rfl⟩ (mH _) (fV wW (by decide))
 refine ez ?_
 rw[xR]at h
 exact Kx Z rfl (Q.Y3 _ _ _ _)<|Q.B lg<|Q.B (VS aQ)<|Q.B lg<|Q.B (Ik aQ)<|Q.B (Dz F aE az)<|Q.B (zj F aE az)<|Q.B (Q.nj (zk fc cO _ _) (h.trans (eZ (Q.ahb ..) _))) rfl
theorem ajU (a b):(aF N G B).set (N.f .src) (.list [.int a,.int b])=aF N G {B with c9:=a,tg:=b}:=xe rfl λj aW=>by rcases j with _|_<;>first|rfl|exact absurd rfl aW
theorem UU (Z:c7 N (k::p)) (az:0<gm) (aE:gm<100000):∃v dB fM,aJ (n+1) p 1290 [.ref (N.f .src),.int gm] ⟨aF N G B,k⟩=some (.int (v:Nat),⟨aF N G {B with c9:=dB,tg:=fM},k+1⟩)/\((v:Nat):Int)<gm:=by
 obtain⟨v,a,b,h,bJ⟩:=AX (C:=⟨aF N G B,k⟩) (jB rfl) (Z .src) az aE
 exact⟨v,a,b,by rw[h,ajU],bJ⟩
theorem HP (Z:c7 N (k::p)) {r:ay} (fc:N.g r=none) (cO:G r=some (.list aa)) (cj:0<aa.length) (az:aa.length<1000):
  ∃v dB fM,aJ (n+2) p 1297 [.ref (N.f .src),.ref r] ⟨aF N G B,k⟩=some (v,⟨aF N G {B with c9:=dB,tg:=fM},k+1⟩)/\v∈aa:=by
 refine iu λaH ez=>?_
 obtain⟨v,a,b,h,bJ⟩:=UU (Z.sub _) (Int.ofNat_lt.mpr cj) (lX (Int.ofNat_lt.mpr az) (by decide))
 have iY:v<aa.length:=Int.ofNat_lt.mp bJ
 have hz:aa.length<=100000:=sq (fV az (by decide))
 refine ez ?_
 exact⟨aa[v],a,b,Kx Z rfl (Q.J3 _ _ _ _)<|Q.B (Q.iy (o6 ((kE fc).trans cO) hz))<|Q.B h<|Q.B (jz ((kE fc).trans cO) (h7 iY) (lW iY hz))<|rfl,sf iY⟩
end
end Mine.lK
namespace Mine.Q
noncomputable abbrev akz (L:cy) (p:ay) (X:I):bF I:=ck L p (ai (.type "bytes")) (bh (aU p .Add (e_ p (bP (ak 64) (ck L p (ai (.bi "len")) (bh (H X))))) (H X)))
noncomputable abbrev aky (L:cy) (p:ay) (X:I):bF I:=Y (ck L p (ai (.type "bytes")) (bh (e_ p (bP (ak 65) (ck L p (ai (.bi "len")) (bh (H X))))))) λqB=>Y (H X) λm5=>pr (jL L p 96 (aA 176).sc G3 Ho m5 (Di L p) (zx X qB .undef))
end Mine.Q
namespace Mine.lK
set_option tactic.hygienic true in
theorem DR {G bu:bl} (h:dz q G bu):jt q G bu=G:=by
 funext r
 unfold jt
 split
 .rfl
 .rename_i aR
  exact h r λz=>aR (List.isSuffixOf_iff_suffix.mpr z)
theorem dz.at {G bu:bl} (h:dz q G bu) {r:ay} (aQ:¬q<:+r):bu r=G r:=h r aQ
section
variable {N:gg} {G bu:bl} {B bU:eT}
theorem ajO {l:List Int} (h:∀x∈l,0<=x/\x<256):xd (l.map I.int)=some (l.map Int.toNat):=by
 induction l with
 |nil=>rfl
 |cons x l ih=>
  have bE:=h x jH
  show(if decide (0<=x)&&decide (x<256)then(xd (l.map I.int)).map (x.toNat::·)else none)=_
  rw[iU bE.1,iU bE.2,ih λy cM=>h y (i9 _ cM)]
  rfl
theorem Cp {q r:ay} {l:List Int} (fc:N.g r=none) (cO:G r=some (.list (l.map I.int))) (h:∀y∈l,0<=y/\y<256) (hz:l.length<1000):jk q "bytes" [.ref r] ⟨aF N G B,x⟩=some (.bytes (l.map Int.toNat),⟨aF N G B,x⟩):=by
 have bk:aF N G B r=some (.list (l.map I.int)):=(kE fc).trans cO
 have bK:decide ((l.map I.int).length<=100000)=true:=by simp;omega
 show Y (obj r) _ _=_
 simp only[Y,obj,jb,bk,bK,jW,gU,ajO h,ai]
theorem GO:∀l:List Int,sP (l.map I.int)=some l
 |[]=>rfl
 |x::l=>by show(sP (l.map I.int)).map (x::·)=_;rw[GO l];rfl
theorem adB (l:List Int):∀a:Int,(0<=l.foldl (λa b=>if b<a then b else a) a)↔0<=a/\∀x∈l,0<=x:=by
 induction l with
 |nil=>intro a;simp
 |cons x l ih=>
  intro a
  rw[List.foldl_cons,ih]
  simp only[sj,forall_eq_or_imp]
  split<;>constructor<;>intro h<;>refine⟨?_,?_⟩<;>first|omega|exact⟨by omega,h.2⟩|exact h.2.2
theorem adA (l:List Int):∀a:Int,(l.foldl (λa b=>if a<b then b else a) a<256)↔a<256/\∀x∈l,x<256:=by
 induction l with
 |nil=>intro a;simp
 |cons x l ih=>
  intro a
  rw[List.foldl_cons,ih]
  simp only[sj,forall_eq_or_imp]
  split<;>constructor<;>intro h<;>refine⟨?_,?_⟩<;>first|omega|exact⟨by omega,h.2⟩|exact h.2.2
theorem ame (x:Int) (l):uh (x::l)=(decide (0<=l.foldl (λa b=>if b<a then b else a) x)&&decide (l.foldl (λa b=>if a<b then b else a) x<256)):=by
 rw[Bool.eq_iff_iff]
 unfold uh
 simp only[Je,sj,forall_eq_or_imp,gI,lH,adB,adA]
 constructor
 .rintro ⟨⟨az,aE⟩,b8⟩
  exact⟨⟨az,λy cM=>(b8 y cM).1⟩,aE,λy cM=>(b8 y cM).2⟩
 .rintro ⟨⟨az,aE⟩,b8,cH⟩
  exact⟨⟨az,b8⟩,λy cM=>⟨aE y cM,cH y cM⟩⟩
theorem HO {r:ay} (fc:N.g r=none) (cO:G r=some (.list aa)) (i x):g8 (.ref r) i ⟨aF N G B,x⟩=some (aa[i]?,⟨aF N G B,x⟩):=by
 show Y (obj r) _ _=_
 simp only[Y,obj,(kE fc).trans cO,ai]
theorem QI (Z:c7 N q) {r:ay} {ns:List Int} (fc:N.g r=none) (cO:G r=some (.list (ns.map I.int))) (kO:¬q<:+r) (hz:ns.length<900) (nB:∀G v y,ek (x::q) [(".0",.undef),("one",.int v)] ⟨aF N G B,y⟩=some (.int v,⟨aF N G B,y⟩)):
  jZ q (λU U=>ai true) ek "one" (.ref r) [(".0",.undef),("one",.undef)] ⟨aF N G B,x⟩=some (.ref (0::x::q),⟨aF N (G.set (0::x::q) (.list (ns.map I.int))) B,x+1⟩):=by
 have ne:r≠0::x::q:=λe=>kO (by rw[e];exact⟨[0,x],rfl⟩)
 refine(Cy (af:=λG=>aF N G B) (R:=λv=>[((".0":Str),.undef),(("one":Str),v)]) (λU U=>rfl) (zk fc cO B x) (λo j y=>HO fc ((dP ne).trans cO) j y) (λU U U U=>rfl) (λo i y U U=>⟨y,nB _ i y⟩) (λG o=>ue (Z.sub x)) (fV hz (by decide)) .undef).trans ?_
 rw[List.filter_eq_self.mpr λU U=>rfl]
theorem Dg (Z:c7 N q):iK q [a,b] ⟨aF N G B,k⟩=some (.ref (k::q),⟨aF N (G.set (k::q) (.list [a,b])) B,k+1⟩):=gV Z
theorem add_bytes (h:a.length+b.length<=100000):fk q .Add (.bytes a) (.bytes b) C=some (.bytes (a++b),C):=by
 show(if decide (a.length+b.length<=100000)then(ai (I.bytes (a++b)):aD I)else no) C=_
 rw[bT (iU h)];rfl
theorem aoG (z:Int):∀y∈[(z.fmod 65536).fdiv 256,z.fmod 256],0<=y/\y<256:=λy cM=>by
 simp only[sj,B0,or_false]at cM
 rw[RG,RH,Rz]at cM
 rcases cM with rfl|rfl<;>constructor<;>omega
theorem adE {body:aL->(aL->aD I)->aD I} {K:aL->aD I} {aa:List I} (bG:g8 it j C=some (aa[j]?,C)) (e:aa[j]?=some v):gP body gr it K (dY+1) j J C=gr v J (λJ=>body J λJ=>gP body gr it K dY (j+1) J) C:=by
 rw[gP]
 simp only[Y,bG,e]
theorem Fe {q r s:ay} {x y:List Int} (Z:c7 N q) (aQ:N.g r=none) (aR:N.g s=none) (az:G r=some (.list (x.map I.int))) (aE:G s=some (.list (y.map I.int))) (hz:x.length+y.length<1000):
  fk q .Add (.ref r) (.ref s) ⟨aF N G B,bq⟩=some (.ref (bq::q),⟨aF N (G.set (bq::q) (.list ((x++y).map I.int))) B,bq+1⟩):=by
 have bk:aF N G B r=some (.list (x.map I.int)):=(kE aQ).trans az
 have bK:aF N G B s=some (.list (y.map I.int)):=(kE aR).trans aE
 have gJ:decide ((x.map I.int).length+(y.map I.int).length<=100000)=true:=by simp;omega
 show Y (obj r) _ _=_
 simp only[Y,obj,jb,bk,bK,gJ,jW,new,ue Z,qd]
theorem Tz {q r:ay} {ns:List Int} (fc:N.g r=none) (cO:G r=some (.list (ns.map I.int))) (hz:ns.length<=100000):fz L q (.bi "len") [.ref r] ⟨aF N G B,x⟩=some (.int ns.length,⟨aF N G B,x⟩):=Q.iy ((o6 ((kE fc).trans cO) (by rw[fD];exact hz)).trans (by rw[fD]))
theorem aih {q r:ay} (fc:N.g r=none) (cO:G r=some (.list ((a::l).map I.int))):builtin q "min" [.ref r] ⟨aF N G B,x⟩=some (.int (l.foldl (λa b=>if b<a then b else a) a),⟨aF N G B,x⟩):=by
 show Y (obj _) _ _=_
 simp only[Y,obj,jb,Ut,(kE fc).trans cO,gU,GO,ai]
theorem ah4 {q r:ay} (fc:N.g r=none) (cO:G r=some (.list ((a::l).map I.int))):builtin q "max" [.ref r] ⟨aF N G B,x⟩=some (.int (l.foldl (λa b=>if a<b then b else a) a),⟨aF N G B,x⟩):=by
 show Y (obj _) _ _=_
 simp only[Y,obj,jb,Ug,(kE fc).trans cO,gU,GO,ai]
noncomputable def VG (r:ay) (f u:I):aL:=[("numbers",.ref r),("found",f),("number",u)]
theorem WY (Z:c7 N (k::p)) {r:ay} {ns:List Int} (fc:N.g r=none) (cO:G r=some (.list (ns.map I.int))) (kO:¬(k::p)<:+r) (hz:ns.length<100):
  ∀d j dY bu bq f u,j+d=ns.length->d<dY->dz (k::p) G bu->f.length+2*d<5000->
   ∃rG aok oC,gP (λJ au=>c5 (aJ n) 96 (aA 176).sc (k::p) G3 J au) (λv J au=>asg (aJ n) 96 (aA 176).sc (k::p) 3 Ho v J au) (.ref r) (Di (aJ n) (k::p)) dY j (VG r (.bytes f) u) ⟨aF N bu B,bq⟩=
    Di (aJ n) (k::p) (VG r (.bytes (f++(ns.drop j).flatMap rA)) aok) ⟨aF N rG B,oC⟩/\dz (k::p) G rG
 |d,j,0,bu,bq,f,u,_,h,_,_=>absurd h (rD _)
 |0,j,dY+1,bu,bq,f,u,aI,h,f6,bD=>by
  refine⟨bu,u,bq,?_,f6⟩
  have e:(ns.map I.int)[j]?=none:=by rw[Jl];simp;omega
  have bK:ns.drop j=[]:=List.drop_eq_nil_iff.mpr (by omega)
  have w9:=HO (B:=B) fc ((f6.at kO).trans cO) j bq
  unfold gP
  simp only[Y,w9,e,bK,List.flatMap_nil,vR]
 |d+1,j,dY+1,bu,bq,f,u,aI,h,f6,bD=>by
  have iY:j<ns.length:=by omega
  have e:(ns.map I.int)[j]?=some (.int ns[j]):=by rw[jI,h7 iY];rfl
  have bK:=List.drop_eq_getElem_cons iY
  have w9:=HO (B:=B) fc ((f6.at kO).trans cO) j bq
  obtain⟨oh,bP,gK,ih,Lg⟩:=WY Z fc cO kO hz d (j+1) dY (bu.set (bq::k::p) (.list [.int ((ns[j].fmod 65536).fdiv 256),.int (ns[j].fmod 256)])) (bq+1) (f++rA ns[j]) (.int ns[j]) (by omega) (by omega) (f6.set ⟨[bq],rfl⟩ _) (by rw[gO];show f.length+2+_<_;omega)
  refine⟨oh,bP,gK,?_,Lg⟩
  have aax:jk (k::p) "bytes" [.ref (bq::k::p)] ⟨aF N (bu.set (bq::k::p) (.list [.int ((ns[j].fmod 65536).fdiv 256),.int (ns[j].fmod 256)])) B,bq+1⟩=some (.bytes (rA ns[j]),⟨aF N (bu.set (bq::k::p) (.list [.int ((ns[j].fmod 65536).fdiv 256),.int (ns[j].fmod 256)])) B,bq+1⟩):=
   Cp (gN Z bq) cP (aoG _) (show 2<1000 by decide)
  have ad:fk (k::p) .Add (.bytes f) (.bytes (rA ns[j])) ⟨aF N (bu.set (bq::k::p) (.list [.int ((ns[j].fmod 65536).fdiv 256),.int (ns[j].fmod 256)])) B,bq+1⟩=some (.bytes (f++rA ns[j]),_):=add_bytes (by show f.length+2<=_;omega)
  rw[bK,List.flatMap_cons,<-nM,<-ih]
  refine(adE w9 e).trans ((eZ (ahz ..) _).trans (Q.iF (Q.agF ..) ?_))
  exact Q.bx (Q.n4 (by decide))<|Q.bx (mh (by decide) (by decide) (by decide))<|Q.bx (Q.n4 (by decide))<|Q.bx (Dg Z)<|Q.bx (Q.fR aax)<|Q.bx ad Q.fin
def JB (N:gg) (G:bl) (B:eT) (q:ay) (ns:List Int) (R:Option (I×bl)):Prop:=∃bu,R=some (.bytes (gz ns),aF N bu B)/\dz q G bu
theorem ald (Z:c7 N q) {r:ay} {ns:List Int} (f6:dz q G rH) (fc:N.g r=none) (cO:G r=some (.list (ns.map I.int))) (kO:¬q<:+r) (hz:ns.length<=10) (aR:uh ns=true):JB N G B q ns (Q.go ((Q.akz (aJ n) q (.ref r)).cps Q.ret) ⟨aF N rH B,x⟩):=by
 have wU:=(f6.at kO).trans cO
 have C3:∀y∈ns,0<=y/\y<256:=λy cM=>by
  have:=List.all_eq_true.mp aR y cM
  simpa using this
 have ad0:∀y∈(64::(ns.length:Int)::ns),0<=y/\y<256:=λy cM=>by
  rw[sj,sj]at cM
  rcases cM with rfl|rfl|cM
  .decide
  .omega
  .exact C3 y cM
 have e:(64::(ns.length:Int)::ns).map Int.toNat=gz ns:=by unfold gz;rw[bT aR];rfl
 refine aM (Tz fc wU (d5 hz (by decide)))<|aM (Dg Z)<|aM (Fe (x:=[64,(ns.length:Int)]) Z (gN Z x) fc cP ((dP λe=>kO (by rw[e];exact⟨[x],rfl⟩)).trans wU) (dg (uA hz 2) (by decide)))<|aM (Q.fR (Cp (l:=64::(ns.length:Int)::ns) (gN Z _) cP ad0 (dg (z4 (z4 hz)) (by decide)))) ?_
 rw[e]
 exact⟨_,rfl,(f6.set ⟨[x],rfl⟩ _).set ⟨[x+1],rfl⟩ _⟩
theorem Vo (Z:c7 N (k::p)) {r:ay} {ns:List Int} (f6:dz (k::p) G rH) (fc:N.g r=none) (cO:G r=some (.list (ns.map I.int))) (kO:¬(k::p)<:+r) (hz:ns.length<=10) (aR:uh ns=false):JB N G B (k::p) ns (Q.go ((Q.aky (aJ n) (k::p) (.ref r)).cps Q.ret) ⟨aF N rH B,x⟩):=by
 refine iu λaH ez=>?_
 have wU:=(f6.at kO).trans cO
 have R_:dz (k::p) G (rH.set (x::k::p) (.list [.int 65,.int (ns.length:Nat)])):=f6.set ⟨[x],rfl⟩ _
 obtain⟨oh,bP,gK,C1,Lg⟩:=WY Z fc cO kO (dg hz (by decide)) ns.length 0 1000 _ (x+1) [65,ns.length] .undef (mH _) (dg hz (by decide)) R_ (dg (uA (OS 2 hz) 2) (by decide))
 refine ez ?_
 rw[xR]at C1
 have e:[65,ns.length]++ns.flatMap rA=gz ns:=by unfold gz;rw[bX (by rw[aR];decide)]
 rw[e]at C1
 exact aM (Tz fc wU (d5 hz (by decide)))<|aM (Dg Z)<|aM (Q.fR (Cp (l:=[65,(ns.length:Int)]) (gN Z _) cP (λy cM=>by
  simp only[sj,B0,or_false]at cM
  rcases cM with rfl|rfl
  .decide
  .omega) (show 2<1000 by decide)))<|aM (Q.nj (zk fc ((R_.at kO).trans cO) _ _) (C1.trans (eZ (Q.aha ..) _))) ⟨oh,rfl,Lg⟩
theorem UT (Z:c7 N (k::p)) {r:ay} {ns:List Int} (fc:N.g r=none) (cO:G r=some (.list (ns.map I.int))) (kO:¬(k::p)<:+r) (cj:0<ns.length) (hz:ns.length<=10):
  aJ (n+1) p 1302 [.ref r] ⟨aF N G B,k⟩=some (.bytes (gz ns),⟨aF N G B,k+1⟩):=by
 obtain⟨a,l,rfl⟩:∃a l,ns=a::l:=by induction ns with|nil=>simp at cj|cons a l=>exact⟨a,l,rfl⟩
 have So:(a::l).length<900:=dg hz (by decide)
 have ad1:(G.set (0::0::k::p) (.list ((a::l).map I.int))) r=some (.list ((a::l).map I.int)):=(dP λe=>kO (by rw[e];exact⟨[0,0],rfl⟩)).trans cO
 have Sa:dz (k::p) G (G.set (0::0::k::p) (.list ((a::l).map I.int))):=(dz.refl _ _).set ⟨[0,0],rfl⟩ _
 have yK:=ame a l
 have key:JB N G B (k::p) (a::l) (Q.go ((Q.Qa (aJ n) (k::p) (.ref r)).cps Q.ret) ⟨aF N G B,0⟩):=by
  refine aM (QI Z fc cO kO So λG v y=>Q.iF (Q.aaV ..) rfl)<|aM (Q.iy (aih (gN (Z.sub 0) 0) cP)) ?_
  by_cases GG:0<=l.foldl (λa b=>if b<a then b else a) a
  .rw[iU GG,Jk]at yK
   refine aM (Q.pT GG)<|aM (QI Z fc ad1 kO So λG v y=>Q.iF (Q.aaW ..) rfl)<|aM (Q.iy (ah4 (gN (Z.sub 1) 0) cP)) ?_
   have Sb:=Sa.set ⟨[0,1],rfl⟩ (.list ((a::l).map I.int))
   by_cases GH:l.foldl (λa b=>if a<b then b else a) a<256
   .rw[iU GH]at yK
    exact aM (Q.j_ GH)<|ald Z Sb fc cO kO hz yK
   .rw[qc GH]at yK
    exact aM (Q.kQ GH)<|Vo Z Sb fc cO kO hz yK
  .rw[qc GG,Bool.false_and]at yK
   exact aM (Q.nV GG)<|Vo Z Sa fc cO kO hz yK
 obtain⟨bu,e,o⟩:=key
 exact(Ak Z rfl (Q.YW _ _ _) e).trans (by rw[DR o])
end
theorem Dx {j x:Nat} {q:ay} (h:j≠x):¬(j::q)<:+(x::q):=MP (aC:=[]) h
section
variable {N:gg} {G bu:bl} {B bU:eT} {k:Nat} {q p:ay} {n:Nat} {C:bL} {i m:Nat}
theorem wo (q:ay) (a b) (h:a.length+b.length<5000) C:fk q .Add (.bytes a) (.bytes b) C=some (.bytes (a++b),C):=by
 have iI:fk q .Add (.bytes a) (.bytes b)=if decide (a.length+b.length<=100000)then ai (.bytes (a++b))else no:=rfl
 have bk:decide (a.length+b.length<=100000)=true:=by rw[lH];omega
 rw[iI,bk];rfl
theorem DA (Z:c7 N q) {ns:List Int} x (cj:0<ns.length) (hz:ns.length<=10) j (aW:j≠x) {G:bl} (cO:G (x::q)=some (.list (ns.map I.int))):aJ (n+1) q 1302 [.ref (x::q)] ⟨aF N G B,j⟩=some (.bytes (gz ns),⟨aF N G B,j+1⟩):=
 UT (Z.sub j) (gN Z x) cO (Dx aW) cj hz
theorem xr (ns:List Int) (h:ns.length<=10):(gz ns).length<=30:=by rw[Vn];split<;>omega
theorem J8 {q:ay} {x:Nat} {o:Nat} (Z:c7 N q) (bw:o<256) y:jk q "bytes" [.ref (x::q)] ⟨aF N (G.set (x::q) (.list [.int o])) B,y⟩=some (.bytes [o],⟨aF N (G.set (x::q) (.list [.int o])) B,y⟩):=
 Cp (l:=[(o:Int)]) (gN Z x) cP (λz hz=>by rw[List.mem_singleton.mp hz];omega) (by simp)
theorem MG (q:ay) (a b):iK q [a,b]=new q (.list [a,b]):=rfl
theorem Om (l:List Nat):l.map bZ=(l.map cY).map I.int:=by rw[rF];rfl
theorem Ue (Z:c7 N q) {a b:ay} {ns sX:List Int} (wO:N.g a=none) (Gs:N.g b=none) (jh:G a=some (.list (ns.map I.int))) (cO:G b=some (.list (sX.map I.int))) (cj:0<(ns++sX).length) (hz:(ns++sX).length<=10) {o:Nat} (bw:o<256) aH (c8:aH.length<=100) y:
  Q.go ((Q.aU q .Add (Q.aU q .Add (Q.H (.bytes aH)) (Q.bC (aJ (n+1)) q 1302 (Q.bh (Q.aU q .Add (Q.H (.ref a)) (Q.H (.ref b)))))) (Q.ck (aJ (n+1)) q (Q.ai (.type "bytes")) (Q.bh (Q.e_ q (Q.bh (Q.H (.int o))))))).cps Q.ret) ⟨aF N G B,y⟩=some (.bytes (aH++gz (ns++sX)++[o]),aF N ((G.set (y::q) (.list ((ns++sX).map I.int))).set ((y+2)::q) (.list [.int (o:Nat)])) B):=by
 have pn:=xr _ hz
 exact Q.B (Fe Z wO Gs jh cO (by rw[<-gO];exact dg hz (by decide)))<|Q.B (DA Z y cj hz (y+1) (z5 y) cP)<|Q.B (wo q aH _ (dg (mG c8 pn) (by decide)) _)<|Q.B (gV Z)<|Q.B (Q.fR (J8 Z bw _))<|
  Q.B (wo q _ [o] (by rw[gO];exact dg (mG (mG c8 pn) (fu 1)) (by decide)) _) rfl
theorem HN (Z:c7 N (k::p)) {a b:ay} {av:List Nat} {nums:List Int} (wO:N.g a=none) (Gs:N.g b=none) (jh:G a=some (.list (av.map bZ))) (R7:G b=some (.list (nums.map I.int))) (fN:¬(k::p)<:+a) (pe:¬(k::p)<:+b) (az:0<av.length) (aE:av.length<=2) (b8:nums.length<=1) {o:Nat} (bw:o<256) (src own):
  aJ (n+2) p 1368 [src,own,.ref a,.ref b,.int (o:Nat)] ⟨aF N G B,k⟩=some (.bytes (q7 av nums o),⟨aF N G B,k+1⟩):=by
 have UD:∀x,a≠x::k::p:=λx e=>fN (e▸⟨[x],rfl⟩)
 have UG:∀x,b≠x::k::p:=λx e=>pe (e▸⟨[x],rfl⟩)
 have n3:builtin (k::p) "len" [.ref a] ⟨aF N G B,0⟩=some (.int (av.length:Nat),⟨aF N G B,0⟩):=(o6 ((kE wO).trans jh) (by rw[fD];exact d5 aE (by decide))).trans (by rw[fD])
 have e:(av.map cY++nums).length=av.length+nums.length:=by rw[gO,fD]
 have TT:(av.map cY++nums).length<=10:=e▸d5 (mG aE b8) (by decide)
 have TS:=e▸lW az (gQ _ _)
 rw[Om]at jh
 have Vh:=xr [av.length] (by decide:1<=10)
 by_cases aN:1<av.length
 .have f6:∀lA kR qq qs,jt (k::p) G ((((G.set (0::k::p) lA).set (2::k::p) kR).set (3::k::p) qq).set (5::k::p) qs)=G:=λlA kR qq qs=>DR (((((dz.refl _ _).set ⟨[0],rfl⟩ _).set ⟨[2],rfl⟩ _).set ⟨[3],rfl⟩ _).set ⟨[5],rfl⟩ _)
  refine(Ak Z rfl (Q.PM (aJ (n+1)) (k::p) src own (.ref a) (.ref b) (.int o)) (Q.B (Q.iy n3)<|Q.B (Q.wQ (Int.ofNat_lt.mpr aN))<|Q.B (Q.iy n3)<|Q.B (gV Z)<|Q.B (DA Z (ns:=[(av.length:Int)]) 0 (xQ 0) (show 1<=10 by decide) 1 (by decide) cP)<|Q.B (gV Z)<|Q.B (Q.fR (J8 Z (by decide) _))<|Q.B (wo _ _ [23] (dg (mG Vh (fu 1)) (by decide)) _)<|
   Ue Z wO Gs ((dP (UD 2)).trans ((dP (UD 0)).trans jh)) ((dP (UG 2)).trans ((dP (UG 0)).trans R7)) TS TT bw _ (by rw[gO];exact d5 (mG Vh (fu 1)) (by decide)) 3)).trans ?_
  rw[f6]
  unfold q7
  rw[bT aN]
 .have f6:∀qq qs,jt (k::p) G ((G.set (0::k::p) qq).set (2::k::p) qs)=G:=λqq qs=>DR (((dz.refl _ _).set ⟨[0],rfl⟩ _).set ⟨[2],rfl⟩ _)
  refine(Ak Z rfl (Q.PM (aJ (n+1)) (k::p) src own (.ref a) (.ref b) (.int o)) (Q.B (Q.iy n3)<|Q.B (Q.uZ (λz=>aN (Int.ofNat_lt.mp z)))<|Ue Z wO Gs jh R7 TS TT bw [] (by decide) 0)).trans ?_
  rw[f6]
  unfold q7
  rw[bX aN]
end
noncomputable def eT.src (B:eT) (a b:Int):eT:={B with c9:=a,tg:=b}
section
variable {N:gg} {G bu:bl} {B bU:eT}
theorem ur (Z:c7 N (k::p)) (az:0<gm) (aE:gm<100000) (a b):∃(v:Nat) (dB fM:Int),aJ (n+1) p 1290 [.ref (N.f .src),.int gm] ⟨aF N G (B.src a b),k⟩=some (.int v,⟨aF N G (B.src dB fM),k+1⟩)/\(v:Nat)<gm:=
 UU Z az aE
inductive JM (N:gg) (G:bl) (B:eT) eg (gm j):List I->bL->Prop
 |mk (av:List Nat) (a b) (aI:av.length=j) (cA:∀i∈av,i<gm):JM N G B eg gm j (av.map bZ) ⟨aF N (G.set eg (.list (av.map bZ))) (B.src a b),1+j⟩
noncomputable def lq (G:bl) (q:ay) (av:List Nat):bl:=(G.set (0::2::q) (.list (av.map bZ))).set (3::q) (.list [.int 0,.int 5,.int 64,.int (-40),.int 130])
theorem IP {P:Prop} (Z:c7 N (k::p)) (az:0<gm) (aE:gm<100000) (a b) (r:∀v dB fM,v<gm->aJ (n+1) p 1290 [.ref (N.f .src),.int (gm:Nat)] ⟨aF N G (B.src a b),k⟩=some (.int v,⟨aF N G (B.src dB fM),k+1⟩)->P):P:=
 (ur Z (Int.ofNat_lt.mpr az) (Int.ofNat_lt.mpr aE) a b).elim λv z=>z.elim λdB z=>z.elim λfM z=>r v dB fM (Int.ofNat_lt.mp z.2) z.1
theorem ab7 (Z:c7 N q) (F:B.t.cG m) (bM:0<m) (G:bl) (v) (y) (a b):∃w dB fM,eK (aJ (n+2)) 96 CA (2::q) [(".0",.undef),("k",v),("own",.ref (N.f .own)),("source",.ref (N.f .src))] (ee Aj 0) ⟨aF N G (B.src a b),y⟩=some (bZ w,⟨aF N G (B.src dB fM),y+1⟩)/\w<m:=
 have ia:=F.ia
 have n3:builtin (2::q) "len" [.ref (N.f .now)] ⟨aF N G (B.src a b),y⟩=some (.int m,⟨aF N G (B.src a b),y⟩):=by
  have:=o6 (p:=2::q) (C:=⟨aF N G (B.src a b),y⟩) (jB (i:=.now) rfl) (by simp[iE,eT.src];rw[F.now];omega)
  simpa[iE,eT.src,F.now]using this
 IP ((Z.sub _).sub _) bM (by omega) a b λw dB fM g h=>⟨w,dB,fM,Q.iF (Q.aa1 _ _ (.ref (N.f .src)) (.ref (N.f .own)) v)<|Q.bx lV<|Q.bx (Q.iy n3)<|Q.fin.trans h,g⟩
theorem abn {P:Prop} (Z:c7 N q) (F:B.t.cG m) (bM:0<m) (cK:e<2) (a b)
  (r:∀av dB fM,tO av m->jZ q (λU U=>ai true) (λq J=>eK (aJ (n+2)) 96 CA q J (ee Aj 0)) "k" (.eo 0 (1+e:Nat)) [(".0",.undef),("k",.undef),("own",.ref (N.f .own)),("source",.ref (N.f .src))] ⟨aF N G (B.src a b),2⟩=some (.ref (0::2::q),⟨aF N (G.set (0::2::q) (.list (av.map bZ))) (B.src dB fM),3⟩)->P):P:=
 have m6:=(fD ..).trans uB
 have bK:=uA (z3 cK) 1
 (FJ (R:=λv=>[((".0":Str),.undef),(("k":Str),v),(("own":Str),.ref (N.f .own)),(("source":Str),.ref (N.f .src))])
  (λU U=>rfl) (sS (1+e) (dg bK (by decide)) _) (λj b5 C aS=>DU j) (λj b5 C aS=>aS.rec λav a b aI U=>by rw[fD];exact ng aI)
  (λj b5 C h aS=>aS.rec λav a b aI cA=>(ab7 Z F bM (G.set (0::2::q) (.list (av.map bZ))) ((List.range (1+e)).map bZ)[j] (1+j) a b).elim λw z=>z.elim λdB z=>z.elim λfM z=>.take _ _ _ rfl z.1 ((kE (gN (Z.sub 2) 0)).trans cP) λU=>by
   have aS:=JM.mk (N:=N) (G:=G) (B:=B) (eg:=0::2::q) (gm:=m) (j:=j+1) (av++[w]) dB fM (by rw[gO,aI];rfl) (λi aj=>(List.mem_append.mp aj).elim (cA i) λaj=>List.mem_singleton.mp aj▸z.2)
   rw[qd,<-xy (a:=.list (av.map bZ)),<-ue (Z.sub 2)]at aS
   exact aS)
  (dg (ng m6) (dg bK (by decide))) (by rw[ue (Z.sub 2)];exact .mk [] a b rfl (λi aj=>nomatch aj)) .undef).elim λb5 z=>z.elim λC z=>
  have key:∀{j b5 C},JM N G B (0::2::q) m j b5 C->j=1+e->jZ q (λU U=>ai true) (λq J=>eK (aJ (n+2)) 96 CA q J (ee Aj 0)) ("k":Str) (.eo 0 ((1+e:Nat):Int)) [((".0":Str),.undef),(("k":Str),.undef),(("own":Str),.ref (N.f .own)),(("source":Str),.ref (N.f .src))] ⟨aF N G (B.src a b),2⟩=some (.ref (0::2::q),⟨C.h,3⟩)->P:=λaS Ri=>aS.rec (motive:=λb5 C U=>_=some (I.ref (0::2::q),(⟨C.h,3⟩:bL))->P) λav dB fM aI cA=>r av dB fM ⟨aI▸Ri▸gQ 1 e,aI▸Ri▸bK,cA⟩
  key z.2 m6 z.1
theorem aj0 {P:Prop} (Z:c7 N q) (cO:G (3::q)=some (.list [.int 0,.int 5,.int 64,.int (-40),.int 130])) (a b)
  (r:∀d dB fM,d∈([0,5,64,-40,130])->aJ (n+2) q 1297 [.ref (N.f .src),.ref (3::q)] ⟨aF N G (B.src a b),4⟩=some (.int d,⟨aF N G (B.src dB fM),5⟩)->P):P:=
 (HP (Z.sub _) (gN Z 3) cO (show 0<5 by decide) (show 5<1000 by decide)).elim λv z=>z.elim λdB z=>z.elim λfM z=>(List.mem_map.mp (show v∈(([0,5,64,-40,130]).map I.int)from z.2)).elim λd y=>r d dB fM y.1 (y.2▸z.1)
end
end Mine.lK
namespace Mine.Q
noncomputable abbrev aiL (L:cy) (p:ay) (X ah aB aK cV cW gk gA gu:I):bF I:=Y (aV (aV (aV (H ah) (ns "now")) (H aK)) (H cV)) λBC=>eH (bC L p 1330 (dF (H ah) (H aK) (aU p .Mult (aU p .Sub (bC L p 1316 (bP (H ah) (H BC))) (H BC)) (H gu)))) (Y (e_ p (dF (H aK) (H aK) (aV (aV (H ah) (ns "rp")) (ak 2)))) λN4=>gT (H ah) (ns "rp") N4 (aU p .Add (bC L p 1302 (bh (e_ p (bh (H aK))))) (ck L p (ai (.type "bytes")) (bh (e_ p (bh (aU p .Add (ak 46) (H gu))))))))
noncomputable abbrev aiM (L:cy) (p:ay) (X ah aB aK cV cW gk gA gu:I):bF I:=Y (eM (bP (aV (aV (aV (H ah) (ns "now")) (H aK)) (H cV)) (aV (aV (H ah) (ns "cvt")) (H cW)))) λanD=>ie anD λII Eh=>b7 (b_ .Eq (H gu) (ak 1)) (Y (bC L p 1316 (bP (H ah) (b7 (b_ .Gt (ck L p (ai (.bi "abs")) (bh (aU p .Sub (H Eh) (H II)))) (ak 68)) (H II) (H Eh)))) λam0=>Kf L p (X) (ah) (aB) (aK) (cV) (cW) (.undef) (gk) (gA) (gu) (II) (am0) (.undef) (.undef) (.undef)) (Kf L p (X) (ah) (aB) (aK) (cV) (cW) (.undef) (gk) (gA) (gu) (II) (Eh) (.undef) (.undef) (.undef))
noncomputable abbrev aiN (L:cy) (p:ay) (X ah aB aK cV cW gk gA gu:I):bF I:=Y (bC L p 1290 (bP (H X) (ak 32))) λBB=>eH (bC L p 1344 (jw (H ah) (H aK) (b7 (b_ .Eq (H aB) (ak 2)) (ai .none) (aV (aV (H ah) (ns "cvt")) (H cW))) (H BB))) (aU p .Add (bC L p 1302 (bh (b7 (b_ .Eq (H aB) (ak 2)) (e_ p (bh (H aK))) (e_ p (bP (H aK) (H cW)))))) (ck L p (ai (.type "bytes")) (bh (e_ p (bh (aU p .Add (b7 (b_ .Eq (H aB) (ak 2)) (ak 192) (ak 224)) (H BB)))))))
noncomputable abbrev aiO (L:cy) (p:ay) (X ah aB aK cV cW gk gA gu:I):bF I:=eH (bC L p 1330 (dF (H ah) (H aK) (aU p .Sub (H gA) (bC L p 1337 (jw (H ah) (H aK) (aV (aV (H ah) (ns "rp")) (ak 0)) (ns "now")))))) (Y (e_ p (dF (b7 (b_ .Eq (H gu) (ak 1)) (H aK) (aV (aV (H ah) (ns "rp")) (ak 0))) (aV (aV (H ah) (ns "rp")) (ak 0)) (H aK))) λam9=>gT (H ah) (ns "rp") am9 (aU p .Add (bC L p 1302 (bh (e_ p (bP (H aK) (H gA))))) (ck L p (ai (.type "bytes")) (bh (e_ p (bh (aU p .Add (ak 58) (H gu))))))))
noncomputable abbrev aiP (L:cy) (p:ay) (X ah aB aK cV cW gk gA gu:I):bF I:=Y (Y (H gk) λanb=>Y (ai .none) λanc=>Y (ai .none) λane=>Y (Y (ak 1) s3) λanf=>pr (slice p anb anc ane anf)) λang=>pr (jL L p 89 (aA 187).sc L6 Mv ang (Mi L p) (n8 X ah aB aK cV cW .undef gk gA gu .undef .undef .undef .undef .undef))
noncomputable abbrev aiQ (L:cy) (p:ay) (X ah aB aK cV cW gk gA gu:I):bF I:=eH (bC L p 1351 (bP (H ah) (Y (H gk) λani=>Y (ai .none) λanj=>Y (ai .none) λank=>Y (Y (ak 1) s3) λanl=>pr (slice p ani anj ank anl)))) (bC L p 1368 (qC (H X) (H ah) (H gk) (Y (ai []) (iK p)) (ak 57)))
noncomputable abbrev aiR (L:cy) (p:ay) (X ah aB aK cV cW gk gA gu:I):bF I:=Y (aV (aV (H ah) (ns "rp")) (aU p .Sub (ak 2) (H gu))) λNY=>Y (aU p .Sub (aV (aV (aV (H ah) (ns "now")) (H NY)) (H cV)) (aV (aV (aV (H ah) (ns "was")) (H NY)) (H cV))) λanm=>Y (H gk) λano=>pr (jL L p 85 (aA 187).sc L7 Mw ano (Mj L p) (n8 X ah aB aK cV cW NY gk gA gu .undef .undef .undef anm .undef))
noncomputable abbrev aiS (L:cy) (p:ay) (X ah aB aK cV cW gk gA gu:I):bF I:=Y (H gk) λanp=>pr (jL L p 88 (aA 187).sc L8 Mx anp (Mk L p) (n8 X ah aB aK cV cW .undef gk gA gu .undef .undef .undef .undef .undef))
noncomputable abbrev UC (L:cy) (p:ay) (X ah aB aK cV cW gk gA gu:I):bF I:=b7 (b_ .Eq (H aB) (ak 0)) (aiL L p X ah aB aK cV cW gk gA gu) (b7 (b_ .Eq (H aB) (ak 1)) (aiM L p X ah aB aK cV cW gk gA gu) (b7 (b_ .Lt (H aB) (ak 4)) (aiN L p X ah aB aK cV cW gk gA gu) (b7 (b_ .Eq (H aB) (ak 4)) (aiO L p X ah aB aK cV cW gk gA gu) (b7 (b_ .Eq (H aB) (ak 5)) (aiP L p X ah aB aK cV cW gk gA gu) (b7 (b_ .Eq (H aB) (ak 6)) (aiQ L p X ah aB aK cV cW gk gA gu) (b7 (b_ .Eq (H aB) (ak 7)) (aiR L p X ah aB aK cV cW gk gA gu) (aiS L p X ah aB aK cV cW gk gA gu)))))))
noncomputable abbrev ly (L:cy) (p:ay) (X ah aB aK:I):bF I:=Y (eM (bP (aV (H ah) (ns "axis")) (bC L p 1290 (bP (H X) (ak 3))))) λe8=>ie e8 λcV cW=>Y (Y (ck L p (ai (.type "range")) (bh (aU p .Add (ak 1) (bC L p 1290 (bP (H X) (ak 2)))))) λh6=>pr (rI L p 96 CA Aj "k" h6 (Vy .undef ah X))) λgk=>Y (Y (bP (bC L p 1297 (bP (H X) (e_ p (qC (ak 0) (ak 5) (ak 64) (Y (ak 40) s3) (ak 130))))) (bC L p 1290 (bP (H X) (ak 2)))) r3) λpD=>ie pD λgA gu=>UC L p X ah aB aK cV cW gk gA gu
theorem anL:body L p 1373 [X,ah,aB,aK]=(ly L p X ah aB aK).bB:=by kernel_rfl
end Mine.Q
namespace Mine.lK
inductive lI (N:gg) p (k m) ao (B:eT) (r:Option (I×bL)):Prop
 |mk (ins:fT) (bu:bl) (bU:eT) (e:r=some (.bytes (ins.enc B.t),⟨aF N bu bU,k+1⟩)) (v:ins.Valid m) (t:bU.t=ins.apply ao B.t) (w:bU.rows=B.rows) (R:gS N bu bU) (f:∀j,k+1<=j->¬(j::p)<:+bU.eE)
section
variable {N:gg} {G bu:bl} {B bU:eT}
theorem vW (q) (G) (av):dz q G (lq G q av):=((dz.refl _ _).set ⟨[0,2],rfl⟩ _).set ⟨[3],rfl⟩ _
theorem gS.off (h:gS N G B) (bk:um.eE=B.eE) (bK:um.t.cI=B.t.cI) (gJ:um.t.cT=B.t.cT) (nv:um.t.dO=B.t.dO) (bw:dz q G bu) (bG:¬q<:+B.eE):gS N bu um:=⟨by rw[bk,bK,gJ,nv,bw.at bG];exact h.at_,by rw[bk];exact h.g⟩
theorem Ib (Z:c7 N q) (i x j) (h:j≠x) (G:bl) (af):aJ (n+1) q 1302 [.ref (x::q)] ⟨aF N (G.set (x::q) (.list [.int (i:Nat)])) af,j⟩=some (.bytes (gz [cY i]),⟨aF N (G.set (x::q) (.list [.int i])) af,j+1⟩):=DA Z x (by simp) (by simp) j h cP
theorem Bb (Z:c7 N q) (a b) (x j) (h:j≠x) (G:bl) (af):aJ (n+1) q 1302 [.ref (x::q)] ⟨aF N (G.set (x::q) (.list [.int a,.int b])) af,j⟩=some (.bytes (gz [a,b]),⟨aF N (G.set (x::q) (.list [.int a,.int b])) af,j+1⟩):=DA Z x (by simp) (by simp) j h cP
theorem pP (Z:c7 N q) (o x y) (bw:o<256) (G:bl) (af):jk q "bytes" [.ref (x::q)] ⟨aF N (G.set (x::q) (.list [.int (o:Nat)])) af,y⟩=some (.bytes [o],⟨aF N (G.set (x::q) (.list [.int o])) af,y⟩):=J8 Z bw y
theorem sG (q) (ns) (h:ns.length<=10) (o) (C):fk q .Add (.bytes (gz ns)) (.bytes [o]) C=some (.bytes (gz ns++[o]),C):=wo q _ _ (by have:=xr ns h;simp;omega) C
theorem JZ (h:f<2):oQ (decide (f=1))=f:=by
 rcases(by omega:f=0\/f=1)with rfl|rfl<;>rfl
def uJ (N:gg) (q:ay) (m:Nat) (ao:List Nat) (B:eT) (R:Option (I×bl)):Prop:=
 ∃(ins:fT) (bu:bl) (bU:eT),R=some (.bytes (ins.enc B.t),aF N bu bU)/\ins.Valid m/\bU.t=ins.apply ao B.t/\bU.rows=B.rows/\gS N bu bU/\(q<:+bU.eE\/bU.eE=B.eE)
theorem RV {e:Q.bF I} (aW:∀j,k<=j->¬(j::p)<:+B.eE) (bI:sQ a=true) (aP:body (aJ c) (k::p) a aa=e.bB) (h:uJ N (k::p) m ao B (Q.go (e.cps Q.ret) ⟨aF N G B,0⟩)):lI N p k m ao B (aJ (c+1) p a aa ⟨aF N G B,k⟩):=by
 refine iu λaH ez=>?_
 obtain⟨ins,bu,bU,e,az,aE,b8,cH,kB⟩:=h
 refine ez ?_
 refine⟨ins,bu,bU,Q.qh bI aP e,az,aE,b8,cH,λj GD=>?_⟩
 rcases kB with kB|kB
 .intro z
  have a:=O0 z kB (fu _)
  exact zV GD (vS (a.eq_of_length rfl)).1
 .rw[kB];exact aW j (OX GD)
theorem vm (Z:c7 N (k::p)) (aW:∀j,k<=j->¬(j::p)<:+B.eE) (F:B.t.cG m) (aj:i<m)
  (r:∀c flag av d a b,c<3->flag<2->tO av m->d∈([0,5,64,-40,130])->uJ N (k::p) m ao B (Q.go ((Q.UC (aJ (n+3)) (k::p) (.ref (N.f .src)) (.ref (N.f .own)) (.int aB) (.int i) (.int (fP B.t.cL)) (.int (c:Nat)) (.ref (0::2::k::p)) (.int d) (.int (flag:Nat))).cps Q.ret) ⟨aF N (lq G (k::p) av) (B.src a b),6⟩)):
  lI N p k m ao B (aJ (n+4) p 1373 [.ref (N.f .src),.ref (N.f .own),.int aB,.int i] ⟨aF N G B,k⟩):=
 have bM:=Nat.zero_lt_of_lt aj
 RV aW rfl Q.anL<|aM vN<|IP (Z.sub _) (by decide) (by decide) B.c9 B.tg λc nt wh aN T=>aM T<|IP (Z.sub _) (by decide) (by decide) nt wh λe iW kW cK T=>
  aM T<|aM (Q.fR (qy _ (1+e) (fV (rB cK 1) (by decide)) _))<|abn Z F bM cK iW kW λav pM wj cA T=>aM T<|aM (gV Z)<|aj0 Z cP pM wj λd sE J0 hd T=>aM T<|
  IP (Z.sub _) (by decide) (by decide) sE J0 λflag Cm J1 bD T=>aM T<|r c flag av d Cm J1 aN bD cA hd
theorem CP {ins:fT} {af:eT} {R:Option (I×bl)} {j:Nat} (e:R=some (.bytes b,aF N bu af)) (Z:c7 N q) (oW:b=ins.enc B.t) (bJ:ins.Valid m) (KU:aF N bu af=aF N bu {af with t:=ins.apply ao B.t}) (jO:af.rows=B.rows) (aQ:af.eE=j::q) (cO:bu (j::q)=some (.list [bZ (ins.apply ao B.t).cI,bZ (ins.apply ao B.t).cT,bZ (ins.apply ao B.t).dO])):uJ N q m ao B R:=
 ⟨ins,bu,{af with t:=ins.apply ao B.t},by rw[e,oW,KU],bJ,rfl,jO,⟨aQ▸cO,aQ▸gN Z j⟩,.inl (aQ▸⟨[j],rfl⟩)⟩
theorem ais (Z:c7 N (k::p)) (cC:gS N G B) (aW:∀j,k<=j->¬(j::p)<:+B.eE) (O:B.t.Ok m) (aj:i<m):lI N p k m ao B (aJ (n+4) p 1373 [.ref (N.f .src),.ref (N.f .own),.int 0,.int (i:Nat)] ⟨aF N G B,k⟩):=
 vm Z aW O.fit aj λc flag av d a b aN bD cA hd=>by
  have gW:∀{af:eT} {x:Nat},item (.ref B.eE) (.int 2) ⟨aF N (lq G (k::p) av) af,x⟩=some (.int (B.t.dO:Nat),⟨aF N (lq G (k::p) av) af,x⟩):=Ik (cC.off (um:=B) rfl rfl rfl rfl (vW (k::p) G av) (aW k (fu _)))
  have fin:(gG B.t.round (B.t.P i) -B.t.P i)*(flag:Nat)=if decide (flag=1)=true then gG B.t.round (B.t.P i) -B.t.P i else 0:=by
   rcases(by omega:flag=0\/flag=1)with rfl|rfl<;>simp
  refine aM (Q.eqT rfl)<|aM lV<|aM (qv (O.fit.ak aj) O.fit.dM)<|aM (vt (O.fit.ak aj))<|aM (HQ (B:=B.src a b) (Z.sub _) O.code _)<|aM (Q.o_ (sZ (by omega) (by omega)))<|aM (uc (B:=B.src a b) (Z.sub _) O.fit aj _)<|aM lg<|aM gW<|aM (t_ Z)<|aM BK<|aM (gV Z)<|aM (Ib Z i _ _ (by decide) _ _)<|aM (gV Z)<|aM (Q.fR (pP Z (46+flag) _ _ (by omega) _ _))<|aM (sG _ [cY i] (show 1<=10 by decide) _ _) ?_
  refine CP (ins:=.rX i (decide (flag=1))) rfl Z ?_ aj ?_ rfl rfl ?_
  .show _=gz [cY i]++[46+oQ (decide (flag=1))]
   rw[JZ bD]
  .simp only[fT.apply,T.rX,<-fin];rfl
  .rw[dP (by simp),dP (by simp)];exact cP
end
section
variable {N:gg} {G bu:bl} {B bU:eT}
theorem MW (aj:i<B.t.bf.length) (aP:B.t.bf.length<=100):item (.ref (N.f .bf)) (.int (i:Nat)) ⟨aF N G B,k⟩=some (.int (B.t.bf.getD i 0),⟨aF N G B,k⟩):=
 jz (jB rfl) (by rw[jI,h7 aj,kU,h7 aj];rfl) (by omega)
theorem Oo (h:d∈([0,5,64,-40,130]:List Int)):kn d:=by
 simp only[sj,B0,or_false]at h
 unfold kn;omega
theorem Sv (x):(if x<0 then -x else x)=(x.natAbs:Int):=by split<;>omega
theorem RW {ins:fT} {af:eT} {R:Option (I×bl)} (e:R=some (.bytes b,aF N bu af)) (oW:b=ins.enc B.t) (bJ:ins.Valid m) (KU:aF N bu af=aF N bu {af with t:=ins.apply ao B.t}) (jO:af.rows=B.rows) (aQ:af.eE=gc) (Z:q<:+gc) (g5:N.g gc=none) (cO:bu gc=some (.list [bZ (ins.apply ao B.t).cI,bZ (ins.apply ao B.t).cT,bZ (ins.apply ao B.t).dO])):uJ N q m ao B R:=
 ⟨ins,bu,{af with t:=ins.apply ao B.t},by rw[e,oW,KU],bJ,rfl,jO,⟨aQ▸cO,aQ▸g5⟩,.inl (aQ▸Z)⟩
theorem VR {af:eT} (h:gS N G B):item (.ref B.eE) (.int 0) ⟨aF N G af,k⟩=some (.int (B.t.cI:Nat),⟨aF N G af,k⟩):=(xx h k).1
theorem gS.wm (cC:gS N G B) (aW:∀j,k<=j->¬(j::p)<:+B.eE) (av):gS N (lq G (k::p) av) B:=cC.off (um:=B) rfl rfl rfl rfl (vW (k::p) G av) (aW k (fu _))
theorem Oi (h:f<2):f=0\/f=1:=by omega
theorem MJ (Z:c7 N q) (cC:gS N G B) (O:B.t.Ok m) (aj:i<m) (aN:c<3) (bD:flag<2) (eL:(if decide (flag=1)then gG B.t.round (if 68<((B.t.bf.getD c 0 -B.t.P i).natAbs:Int)then B.t.P i else B.t.bf.getD c 0)else B.t.bf.getD c 0)=w):
  uJ N q m ao B (Q.go ((Q.Kf (aJ (n+3)) q X (.ref (N.f .own)) aB (.int (i:Nat)) e8 (.int (c:Nat)) cV f_ kH (.int (flag:Nat)) (.int (B.t.P i)) (.int w) .undef .undef .undef).cps Q.ret) ⟨aF N G (B.src a b),x⟩):=by
 refine aM (uc (B:=B.src a b) (Z.sub _) O.fit aj _)<|aM lg<|aM (Ik (B:=B) cC)<|aM (t_ Z)<|aM BK<|aM (gV Z)<|aM (Bb Z i c _ _ (z5 _) _ _)<|aM (gV Z)<|aM (Q.fR (pP Z (62+flag) _ _ (by omega) _ _))<|aM (sG _ [(i:Int),(c:Int)] (show 2<=10 by decide) _ _) ?_
 refine CP (ins:=.qo i c (decide (flag=1))) rfl Z ?_ ⟨aj,aN⟩ ?_ rfl rfl ?_
 .simp only[fT.enc,JZ bD];rfl
 .simp only[fT.apply,T.qo,eL];rfl
 .rw[dP (by simp),dP (by simp)];exact cP
theorem ait (Z:c7 N (k::p)) (cC:gS N G B) (aW:∀j,k<=j->¬(j::p)<:+B.eE) (O:B.t.Ok m) (aj:i<m):lI N p k m ao B (aJ (n+4) p 1373 [.ref (N.f .src),.ref (N.f .own),.int 1,.int (i:Nat)] ⟨aF N G B,k⟩):=
 vm Z aW O.fit aj λc flag av d a b aN bD cA hd=>by
  refine aM (Q.eN (by decide))<|aM (Q.eqT rfl)<|aM lV<|aM (qv (O.fit.ak aj) O.fit.dM)<|aM (vt (O.fit.ak aj))<|aM IX<|aM (MW (O.fit.pQ aN) O.fit.yj) ?_
  rcases Oi bD with rfl|rfl
  .exact aM (Q.eN (by decide))<|MJ Z (cC.wm aW av) O aj aN bD rfl
  .refine aM (Q.eqT rfl)<|aM Pu ?_
   by_cases h:68<(if B.t.bf.getD c 0 -B.t.P i<0 then -(B.t.bf.getD c 0 -B.t.P i)else B.t.bf.getD c 0 -B.t.P i)
   .exact aM (Q.wQ h)<|aM (HQ (B:=B.src a b) (Z.sub _) O.code _)<|MJ (w:=gG B.t.round (B.t.P i)) Z (cC.wm aW av) O aj aN bD (by rw[<-Sv,bT h];rfl)
   .exact aM (Q.uZ h)<|aM (HQ (B:=B.src a b) (Z.sub _) O.code _)<|MJ (w:=gG B.t.round (B.t.bf.getD c 0)) Z (cC.wm aW av) O aj aN bD (by rw[<-Sv,bX h];rfl)
theorem aiC (Z:c7 N (k::p)) (cC:gS N G B) (aW:∀j,k<=j->¬(j::p)<:+B.eE) (O:B.t.Ok m) (aj:i<m):lI N p k m ao B (aJ (n+4) p 1373 [.ref (N.f .src),.ref (N.f .own),.int 4,.int (i:Nat)] ⟨aF N G B,k⟩):=
 vm Z aW O.fit aj λc flag av d a b aN bD cA hd=>by
  have d4:=λ{af x}=>VR (af:=af) (k:=x) (cC.wm aW av)
  refine aM (Q.eN (by decide))<|aM (Q.eN (by decide))<|aM (Q.kQ (by decide))<|aM (Q.eqT rfl)<|aM lg<|aM d4<|aM (zj (B:=B.src a b) O.fit aj O.d4)<|aM (uc (B:=B.src a b) (Z.sub _) O.fit aj _) ?_
  rcases Oi bD with rfl|rfl
  .refine aM (Q.eN (by decide))<|aM lg<|aM d4<|aM lg<|aM d4<|aM (t_ Z)<|aM BK<|aM (gV Z)<|aM (Bb Z i d _ _ (by decide) _ _)<|aM (gV Z)<|aM (Q.fR (pP Z 58 _ _ (by decide) _ _))<|aM (sG _ [(i:Int),d] (show 2<=10 by decide) _ _) ?_
   refine CP (ins:=.r5 i d false) rfl Z rfl ⟨aj,Oo hd⟩ rfl rfl rfl ?_
   rw[dP (by simp),dP (by simp)];exact cP
  .refine aM (Q.eqT rfl)<|aM lg<|aM d4<|aM (t_ Z)<|aM BK<|aM (gV Z)<|aM (Bb Z i d _ _ (by decide) _ _)<|aM (gV Z)<|aM (Q.fR (pP Z 59 _ _ (by decide) _ _))<|aM (sG _ [(i:Int),d] (show 2<=10 by decide) _ _) ?_
   refine CP (ins:=.r5 i d true) rfl Z rfl ⟨aj,Oo hd⟩ rfl rfl rfl ?_
   rw[dP (by simp),dP (by simp)];exact cP
theorem aiA (Z:c7 N (k::p)) (cC:gS N G B) (aW:∀j,k<=j->¬(j::p)<:+B.eE) (O:B.t.Ok m) (aj:i<m):lI N p k m ao B (aJ (n+4) p 1373 [.ref (N.f .src),.ref (N.f .own),.int 2,.int (i:Nat)] ⟨aF N G B,k⟩):=
 vm Z aW O.fit aj λc flag av d a b aN bD cA hd=>by
  obtain⟨g,yd,J2,JK,g5⟩:=ur (n:=n+2) (N:=N) (G:=lq G (k::p) av) (B:=B) (p:=k::p) (k:=6) (Z.sub _) (gm:=32) (by decide) (by decide) a b
  have rS:g<32:=Int.ofNat_lt.mp g5
  have CT:=cC.wm aW av
  obtain⟨j,b4⟩:=US (n:=n+1) (N:=N) (G:=lq G (k::p) av) (B:=B.src yd J2) (p:=k::p) (k:=7) (Z.sub _) ⟨CT.at_,CT.g⟩ O.fit O.code aj O.d4 rS
  refine aM (Q.eN (by decide))<|aM (Q.eN (by decide))<|aM (Q.j_ (by decide))<|aM JK<|aM (Q.eqT rfl)<|aM b4<|aM (Q.eqT rfl)<|aM (gV Z)<|aM (Ib Z i _ _ (by decide) _ _)<|aM (Q.eqT rfl)<|aM (gV Z)<|aM (Q.fR (pP Z (192+g) _ _ (by omega) _ _))<|aM (sG _ [cY i] (show 1<=10 by decide) _ _) ?_
  refine RW (ins:=.mU i g) (gc:=j::7::k::p) rfl rfl ⟨aj,rS⟩ rfl rfl rfl ⟨[j,7],rfl⟩ (gN (Z.sub _) _) ?_
  rw[dP (by simp),dP (by simp)];exact cP
theorem aiB (Z:c7 N (k::p)) (cC:gS N G B) (aW:∀j,k<=j->¬(j::p)<:+B.eE) (O:B.t.Ok m) (aj:i<m):lI N p k m ao B (aJ (n+4) p 1373 [.ref (N.f .src),.ref (N.f .own),.int 3,.int (i:Nat)] ⟨aF N G B,k⟩):=
 vm Z aW O.fit aj λc flag av d a b aN bD cA hd=>by
  obtain⟨g,yd,J2,JK,g5⟩:=ur (n:=n+2) (N:=N) (G:=lq G (k::p) av) (B:=B) (p:=k::p) (k:=6) (Z.sub _) (gm:=32) (by decide) (by decide) a b
  have rS:g<32:=Int.ofNat_lt.mp g5
  have CT:=cC.wm aW av
  obtain⟨j,b4⟩:=ajw (n:=n+1) (N:=N) (G:=lq G (k::p) av) (B:=B.src yd J2) (p:=k::p) (k:=7) (Z.sub _) ⟨CT.at_,CT.g⟩ O.fit O.code aj O.d4 rS (B.t.bf.getD c 0)
  refine aM (Q.eN (by decide))<|aM (Q.eN (by decide))<|aM (Q.j_ (by decide))<|aM JK<|aM (Q.eN (by decide))<|aM IX<|aM (MW (O.fit.pQ aN) O.fit.yj)<|aM b4<|aM (Q.eN (by decide))<|aM (gV Z)<|aM (Bb Z i c _ _ (by decide) _ _)<|aM (Q.eN (by decide))<|aM (gV Z)<|aM (Q.fR (pP Z (224+g) _ _ (by omega) _ _))<|aM (sG _ [(i:Int),(c:Int)] (show 2<=10 by decide) _ _) ?_
  refine RW (ins:=.o9 i c g) (gc:=j::7::k::p) rfl rfl ⟨aj,aN,rS⟩ rfl rfl rfl ⟨[j,7],rfl⟩ (gN (Z.sub _) _) ?_
  rw[dP (by simp),dP (by simp)];exact cP
end
section
variable {N:gg} {G bu:bl} {B bU:eT}
theorem amc {q r:ay} (Z:c7 N q) (fc:N.g r=none) (cO:G r=some (.list aa)) (hz:aa.length<1000) (af) (x):slice q (.ref r) .none .none (.int (-1)) ⟨aF N G af,x⟩=some (.ref (x::q),⟨aF N (G.set (x::q) (.list aa.reverse)) af,x+1⟩):=by
 have h:(aF N G af) r=some (.list aa):=(kE fc).trans cO
 have e:∀q,slice q (.ref r) .none .none (.int (-1))=Y (obj r) λo=>match o with
  | .list xs=>if decide ((-1:Int)=-1)&&decide (xs.length<=100000)then new q (.list xs.reverse)else no
  |_=>no:=λU=>rfl
 rw[e]
 simp only[Y,obj,h,qH,Jk,show aa.length<=100000 by omega,jW,new,ue Z]
theorem adZ (t:T) (h:i≠j) (d e):(t.go i d).go j e=(t.go j e).go i d:=by
 have g:∀(l:List (Int×Int)) (a:Int×Int),(l.set i a).getD j (0,0)=l.getD j (0,0):=λl a=>by
  simp only[kU,vQ h]
 have f5:∀(l:List (Int×Int)) (a:Int×Int),(l.set j a).getD i (0,0)=l.getD i (0,0):=λl a=>by
  simp only[kU,vQ (Ne.symm h)]
 have b:∀(l:List (Bool×Bool)) (a:Bool×Bool),(l.set i a).getD j (false,false)=l.getD j (false,false):=λl a=>by
  simp only[kU,vQ h]
 have fM:∀(l:List (Bool×Bool)) (a:Bool×Bool),(l.set j a).getD i (false,false)=l.getD i (false,false):=λl a=>by
  simp only[kU,vQ (Ne.symm h)]
 unfold T.go
 simp only[g,f5,b,fM]
 rw[List.set_comm _ _ h,List.set_comm _ _ h]
theorem UB (d:Int) (av:List Nat) (h:av.length<=2) (t):av.reverse.foldl (T.ly d) t=av.foldl (T.ly d) t:=by
 match av,h with
 |[],_=>rfl
 |[a],_=>rfl
 |[a,b],_=>
  by_cases e:b=a
  .subst e;rfl
  .exact adZ t e d d
theorem CI (bD:∀t i,t.cG m->(f t i).cG m/\(f t i).cI=t.cI/\(f t i).cT=t.cT/\(f t i).dO=t.dO):∀(l:List Nat) (t:T),t.cG m->(l.foldl f t).cI=t.cI/\(l.foldl f t).cT=t.cT/\(l.foldl f t).dO=t.dO
 |[],t,h=>⟨rfl,rfl,rfl⟩
 |i::l,t,h=>by
  obtain⟨az,aE,b8,cH⟩:=bD t i h
  obtain⟨gx,iX,jf⟩:=CI bD l (f t i) az
  exact⟨gx.trans aE,iX.trans b8,jf.trans cH⟩
noncomputable def Nl (N:gg) (Ys c:Int) (r:ay) (n_:Int) (i:Nat) (u s w:I) (d oY:Int):aL:=[(("source":Str),.ref (N.f .src)),(("own":Str),.ref (N.f .own)),(("way":Str),.int n_),(("i":Str),.int (i:Nat)),(("axis":Str),.int Ys),(("c":Str),.int c),(("k":Str),u),(("points":Str),.ref r),(("d":Str),.int d),(("flag":Str),.int oY),(("place":Str),.undef),(("value":Str),.undef),(("flags":Str),.undef),(("step":Str),s),(("one":Str),w)]
theorem yz (h:y≠2):¬(y::k::p)<:+(0::2::k::p):=λz=>by
 have e:=O0 z (show(2::k::p)<:+(0::2::k::p)from⟨[0],rfl⟩) (by simp)
 have:=e.eq_of_length (by simp)
 simp at this;exact h this
theorem rP {ins:fT} {af:eT} {R:Option (I×bl)} (e:R=some (.bytes b,aF N bu af)) (cC:gS N G B) (bG:¬q<:+B.eE) (oW:b=ins.enc B.t) (bJ:ins.Valid m) (bY:af.t=ins.apply ao B.t) (jO:af.rows=B.rows) (aQ:af.eE=B.eE) (f6:dz q G bu) (bI:af.t.cI=B.t.cI/\af.t.cT=B.t.cT/\af.t.dO=B.t.dO):uJ N q m ao B R:=
 ⟨ins,bu,af,by rw[e,oW],bJ,bY,jO,cC.off aQ bI.1 bI.2.1 bI.2.2 f6 bG,.inr aQ⟩
theorem uF:lq G q av (0::2::q)=some (.list (av.map bZ)):=(dP (by simp)).trans cP
theorem VF {av:List Nat} {af:eT} (Z:c7 N q) (i6:av.length<=2):slice q (.ref (0::2::q)) .none .none (.int (-1)) ⟨aF N (lq G q av) af,x⟩=some (.ref (x::q),⟨aF N ((lq G q av).set (x::q) (.list (av.reverse.map bZ))) af,x+1⟩):=by
 rw[List.map_reverse]
 exact amc Z (gN (Z.sub 2) 0) uF (by rw[fD];exact dg i6 (by decide)) af x
theorem aiE (Z:c7 N (k::p)) (cC:gS N G B) (aW:∀j,k<=j->¬(j::p)<:+B.eE) (O:B.t.Ok m) (aj:i<m):lI N p k m ao B (aJ (n+4) p 1373 [.ref (N.f .src),.ref (N.f .own),.int 6,.int (i:Nat)] ⟨aF N G B,k⟩):=
 vm Z aW O.fit aj λc flag av d a b aN bD cA hd=>by
  obtain⟨kF,i6,ri⟩:=cA
  have Lh:gS N ((lq G (k::p) av).set (6::k::p) (.list (av.reverse.map bZ))) (B.src a b):=cC.off (um:=B.src a b) (q:=k::p) rfl rfl rfl rfl ((vW (k::p) G av).set ⟨[6],rfl⟩ _) (aW k (fu _))
  have aaw:=ajr (n:=n+1) (p:=k::p) (k:=7) (Z.sub _) Lh O.fit O.bd (r:=6::k::p) (aC:=av.reverse) (gN Z 6) cP (λi aj=>ri i (List.mem_reverse.mp aj)) (by rw[EX];exact dg i6 (by decide)) O.gq O.gW
  have sW:=HN (n:=n+1) (N:=N) (G:=((lq G (k::p) av).set (6::k::p) (.list (av.reverse.map bZ))).set (8::k::p) (.list [])) (B:={B.src a b with t:=av.reverse.foldl (T.nX (B.t.O B.t.dO -B.t.O B.t.cT) (B.t.P B.t.dO -B.t.P B.t.cT)) B.t}) (p:=k::p) (k:=9) (Z.sub _) (a:=0::2::k::p) (b:=8::k::p) (av:=av) (nums:=[]) (gN (Z.sub 2) 0) (gN Z 8) ((dP (by simp)).trans ((dP (by simp)).trans uF)) cP (yz (by decide)) (Dx (by decide)) kF i6 (by simp) (o:=57) (by decide) (.ref (N.f .src)) (.ref (N.f .own))
  refine aM (Q.eN (by decide))<|aM (Q.eN (by decide))<|aM (Q.kQ (by decide))<|aM (Q.eN (by decide))<|aM (Q.eN (by decide))<|aM (Q.eqT rfl)<|aM (VF Z i6)<|aM aaw<|aM (gV Z)<|aM sW ?_
  exact rP (ins:=.nX av) rfl cC (aW k (fu _)) rfl ⟨kF,i6,ri⟩ rfl rfl rfl (((vW (k::p) G av).set ⟨[6],rfl⟩ _).set ⟨[8],rfl⟩ _) (CI (m:=m) (λt i h=>⟨h.go i _,rfl,rfl,rfl⟩) av.reverse B.t O.fit)
theorem aiD (Z:c7 N (k::p)) (cC:gS N G B) (aW:∀j,k<=j->¬(j::p)<:+B.eE) (O:B.t.Ok m) (aj:i<m):lI N p k m ao B (aJ (n+4) p 1373 [.ref (N.f .src),.ref (N.f .own),.int 5,.int (i:Nat)] ⟨aF N G B,k⟩):=
 vm Z aW O.fit aj λc flag av d a b aN bD cA hd=>by
  obtain⟨kF,i6,ri⟩:=cA
  have Lh:gS N ((lq G (k::p) av).set (6::k::p) (.list (av.reverse.map bZ))) (B.src a b):=cC.off (um:=B.src a b) (q:=k::p) rfl rfl rfl rfl ((vW (k::p) G av).set ⟨[6],rfl⟩ _) (aW k (fu _))
  have R6:((lq G (k::p) av).set (6::k::p) (.list (av.reverse.map bZ))) (6::k::p)=some (.list (av.reverse.map bZ)):=cP
  obtain⟨ig,fU,nG⟩:=HM (b9:=Unit) (N:=N) (R:=λu U=>Nl N (fP B.t.cL) c (0::2::k::p) 5 i u .undef .undef d flag) (af:=λt=>{B.src a b with t:=t}) (f:=T.l8) (cZ:=λt=>t.cG m/\t.cI=B.t.cI) (c:=2) (aC:=av.reverse) (r:=6::k::p)
   (body:=λJ au=>c5 (aJ (n+3)) 89 (aA 187).sc (k::p) L6 J au) (gr:=λv J au=>asg (aJ (n+3)) 89 (aA 187).sc (k::p) 3 Mv v J au) (K:=Mi (aJ (n+3)) (k::p)) (gN Z 6) R6 (λw v u au=>ahD ..)
   (λv t i bq au g aj=>⟨(),by
    have rT:=ri i (List.mem_reverse.mp aj)
    have cj:t.cI<m:=g.2▸O.d4
    refine Q.iF (Q.agH ..)<|Q.bx lg<|Q.bx (VR (B:=B.src a b) Lh) ?_
    rw[show T.l8 t i=t.go i (0 -(t.P i -t.P B.t.cI)) by unfold T.l8;rw[g.2]]
    exact Q.bx (zj (B:={B.src a b with t:=t}) g.1 rT O.d4)<|Q.bx (uc (B:={B.src a b with t:=t}) (Z.sub _) g.1 rT _) Q.fin⟩)
   (λt i g aj=>⟨g.1.go _ _,g.2⟩) av.reverse.length B.t 7 .undef () 1000 0 ⟨O.fit,rfl⟩ (mH _) (by rw[EX];exact dg i6 (by decide))
  rw[xR]at nG
  have sW:=HN (n:=n+1) (N:=N) (G:=((lq G (k::p) av).set (6::k::p) (.list (av.reverse.map bZ))).set ((7+2*av.reverse.length)::k::p) (.list [])) (B:={B.src a b with t:=av.reverse.foldl T.l8 B.t}) (p:=k::p) (k:=7+2*av.reverse.length+1) (Z.sub _) (a:=0::2::k::p) (b:=(7+2*av.reverse.length)::k::p) (av:=av) (nums:=[]) (gN (Z.sub 2) 0) (gN Z _) ((dP (by simp)).trans ((dP (by simp)).trans uF)) cP (yz (by omega)) (Dx (by omega)) kF i6 (by simp) (o:=60) (by decide) (.ref (N.f .src)) (.ref (N.f .own))
  refine aM (Q.eN (by decide))<|aM (Q.eN (by decide))<|aM (Q.kQ (by decide))<|aM (Q.eN (by decide))<|aM (Q.eqT rfl)<|aM (VF Z i6)<|aM (Q.nj (zk (gN Z 6) R6 _ _) (nG.trans (Q.iF (Q.ahe ..)<|Q.bx (gV Z)<|Q.bx sW rfl))) ?_
  exact rP (ins:=.ye av) rfl cC (aW k (fu _)) rfl ⟨kF,i6,ri⟩ rfl rfl rfl (((vW (k::p) G av).set ⟨[6],rfl⟩ _).set ⟨[_],rfl⟩ _) (CI (m:=m) (λt i h=>⟨h.go i _,rfl,rfl,rfl⟩) av.reverse B.t O.fit)
theorem aiG {n_:Int} (eL:7<n_) (Z:c7 N (k::p)) (cC:gS N G B) (aW:∀j,k<=j->¬(j::p)<:+B.eE) (O:B.t.Ok m) (aj:i<m):lI N p k m ao B (aJ (n+4) p 1373 [.ref (N.f .src),.ref (N.f .own),.int n_,.int (i:Nat)] ⟨aF N G B,k⟩):=
 vm Z aW O.fit aj λc flag av d a b aN bD cA hd=>by
  obtain⟨kF,i6,ri⟩:=cA
  have mj:N.g (0::2::k::p)=none:=gN (Z.sub 2) 0
  obtain⟨ig,fU,nG⟩:=HM (b9:=Unit) (N:=N) (G:=lq G (k::p) av) (R:=λu U=>Nl N (fP B.t.cL) c (0::2::k::p) n_ i .undef .undef u d flag) (af:=λt=>{B.src a b with t:=t}) (f:=T.ly d) (cZ:=λt=>t.cG m) (c:=1) (aC:=av) (r:=0::2::k::p)
   (body:=λJ au=>c5 (aJ (n+3)) 88 (aA 187).sc (k::p) L8 J au) (gr:=λv J au=>asg (aJ (n+3)) 88 (aA 187).sc (k::p) 3 Mx v J au) (K:=Mk (aJ (n+3)) (k::p)) mj uF (λw v u au=>ahF ..)
   (λv t i bq au g aj=>⟨(),Q.iF (Q.agJ ..)<|Q.bx (uc (B:={B.src a b with t:=t}) (Z.sub _) g (ri i aj) _) Q.fin⟩)
   (λt i g aj=>g.go _ _) av.length B.t 6 .undef () 1000 0 O.fit (mH _) (dg i6 (by decide))
  rw[xR]at nG
  have sW:=HN (n:=n+1) (N:=N) (G:=(lq G (k::p) av).set ((6+1*av.length)::k::p) (.list [.int d])) (B:={B.src a b with t:=av.foldl (T.ly d) B.t}) (p:=k::p) (k:=6+1*av.length+1) (Z.sub _) (a:=0::2::k::p) (b:=(6+1*av.length)::k::p) (av:=av) (nums:=[d]) mj (gN Z _) ((dP (by simp)).trans uF) cP (yz (by omega)) (Dx (by omega)) kF i6 (by simp) (o:=56) (by decide) (.ref (N.f .src)) (.ref (N.f .own))
  refine aM (Q.eN (show¬n_=0 by omega))<|aM (Q.eN (show¬n_=1 by omega))<|aM (Q.kQ (show¬n_<4 by omega))<|aM (Q.eN (show¬n_=4 by omega))<|aM (Q.eN (show¬n_=5 by omega))<|aM (Q.eN (show¬n_=6 by omega))<|aM (Q.eN (show¬n_=7 by omega))<|aM (Q.nj (zk mj uF _ _) (nG.trans (Q.iF (Q.ahg ..)<|Q.bx (gV Z)<|Q.bx sW rfl))) ?_
  exact rP (ins:=.zH av d) rfl cC (aW k (fu _)) rfl ⟨⟨kF,i6,ri⟩,Oo hd⟩ (UB d av i6 B.t).symm rfl rfl ((vW (k::p) G av).set ⟨[_],rfl⟩ _) (CI (m:=m) (λt i h=>⟨h.go i _,rfl,rfl,rfl⟩) av B.t O.fit)
theorem aiF (Z:c7 N (k::p)) (cC:gS N G B) (aW:∀j,k<=j->¬(j::p)<:+B.eE) (O:B.t.Ok m) (aj:i<m):lI N p k m ao B (aJ (n+4) p 1373 [.ref (N.f .src),.ref (N.f .own),.int 7,.int (i:Nat)] ⟨aF N G B,k⟩):=
 vm Z aW O.fit aj λc flag av d a b aN bD cA hd=>by
  obtain⟨kF,i6,ri⟩:=cA
  have mj:N.g (0::2::k::p)=none:=gN (Z.sub 2) 0
  obtain⟨p9,aeG,GK,nW⟩:∃p9:Nat,p9=(if decide (flag=1)then B.t.cT else B.t.dO)/\p9<m/\∀af x,item (.ref B.eE) (.int (2 -flag)) ⟨aF N (lq G (k::p) av) af,x⟩=some (.int (p9:Nat),⟨aF N (lq G (k::p) av) af,x⟩):=by
   rcases Oi bD with rfl|rfl
   .exact⟨B.t.dO,rfl,O.gW,λaf x=>Ik (cC.wm aW av)⟩
   .exact⟨B.t.cT,rfl,O.gq,λaf x=>VS (cC.wm aW av)⟩
  obtain⟨ig,fU,nG⟩:=HM (b9:=Unit) (N:=N) (G:=lq G (k::p) av) (R:=λu U=>Nl N (fP B.t.cL) c (0::2::k::p) 7 i (.int p9) (.int (B.t.P p9 -B.t.O p9)) u d flag) (af:=λt=>{B.src a b with t:=t}) (f:=T.ly (B.t.P p9 -B.t.O p9)) (cZ:=λt=>t.cG m) (c:=1) (aC:=av) (r:=0::2::k::p)
   (body:=λJ au=>c5 (aJ (n+3)) 85 (aA 187).sc (k::p) L7 J au) (gr:=λv J au=>asg (aJ (n+3)) 85 (aA 187).sc (k::p) 3 Mw v J au) (K:=Mj (aJ (n+3)) (k::p)) mj uF (λw v u au=>ahE ..)
   (λv t i bq au g aj=>⟨(),Q.iF (Q.agI ..)<|Q.bx (uc (B:={B.src a b with t:=t}) (Z.sub _) g (ri i aj) _) Q.fin⟩)
   (λt i g aj=>g.go _ _) av.length B.t 6 .undef () 1000 0 O.fit (mH _) (dg i6 (by decide))
  rw[xR]at nG
  have sW:=HN (n:=n+1) (N:=N) (G:=(lq G (k::p) av).set ((6+1*av.length)::k::p) (.list [])) (B:={B.src a b with t:=av.foldl (T.ly (B.t.P p9 -B.t.O p9)) B.t}) (p:=k::p) (k:=6+1*av.length+1) (Z.sub _) (a:=0::2::k::p) (b:=(6+1*av.length)::k::p) (av:=av) (nums:=[]) mj (gN Z _) ((dP (by simp)).trans uF) cP (yz (by omega)) (Dx (by omega)) kF i6 (by simp) (o:=50+flag) (by omega) (.ref (N.f .src)) (.ref (N.f .own))
  refine aM (Q.eN (by decide))<|aM (Q.eN (by decide))<|aM (Q.kQ (by decide))<|aM (Q.eN (by decide))<|aM (Q.eN (by decide))<|aM (Q.eN (by decide))<|aM (Q.eqT rfl)<|aM lg<|aM (nW _ _)<|aM lV<|aM (qv (O.fit.ak GK) O.fit.dM)<|aM (vt (O.fit.ak GK))<|aM vM<|aM (vq (O.fit.gH GK) O.fit.k_)<|aM (zo (O.fit.gH GK))<|aM (Q.nj (zk mj uF _ _) (nG.trans (Q.iF (Q.ahf ..)<|Q.bx (gV Z)<|Q.bx sW rfl))) ?_
  exact rP (ins:=.zG av (decide (flag=1))) rfl cC (aW k (fu _)) (by rw[fT.enc,JZ bD]) ⟨kF,i6,ri⟩ (by rw[<-UB _ av i6 B.t,aeG];rfl) rfl rfl ((vW (k::p) G av).set ⟨[_],rfl⟩ _) (CI (m:=m) (λt i h=>⟨h.go i _,rfl,rfl,rfl⟩) av B.t O.fit)
end
end Mine.lK
namespace Mine.Q
noncomputable abbrev akl (L:cy) (p:ay) (X ah aB aK cV cW:I):bF I:=Y (aU p .Sub (ak 1) (H cV)) λjv=>gT (H ah) (ns "axis") jv (ck L p (ai (.type "bytes")) (bh (e_ p (bh (H cV)))))
noncomputable abbrev akf (L:cy) (p:ay) (X ah aB aK cV cW:I):bF I:=Y (bC L p 1297 (bP (H X) (e_ p (BI (ak 24) (ak 25) (ak 61) (ak 125) (ak 124) (ak 122))))) λgA=>gT (H ah) (ns "round") gA (ck L p (ai (.type "bytes")) (bh (e_ p (bh (aV (H ah) (ns "round"))))))
noncomputable abbrev akg (L:cy) (p:ay) (X ah aB aK cV cW:I):bF I:=Y (bC L p 1290 (bP (H X) (ak 3))) λn9=>Y (aU p .Add (aU p .Add (Y (aV (H ah) (ns "rp")) λEd=>Y (ai .none) λIG=>Y (H n9) λEf=>Y (ai .none) λpG=>pr (slice p Ed IG Ef pG)) (e_ p (bh (H aK)))) (Y (aV (H ah) (ns "rp")) λEg=>Y (aU p .Add (H n9) (ak 1)) λN3=>Y (ai .none) λN4=>Y (ai .none) λanu=>pr (slice p Eg N3 N4 anu))) λuq=>gT (H ah) (ns "rp") uq (aU p .Add (bC L p 1302 (bh (e_ p (bh (H aK))))) (ck L p (ai (.type "bytes")) (bh (e_ p (bh (aU p .Add (ak 16) (H n9)))))))
noncomputable abbrev akh (L:cy) (p:ay) (X ah aB aK cV cW:I):bF I:=Y (bC L p 1290 (bP (H X) (ak 2))) λWm=>eH (bC L p 1361 (bP (H ah) (aU p .Sub (ak 1) (H Wm)))) (ck L p (ai (.type "bytes")) (bh (e_ p (bh (aU p .Add (ak 48) (H Wm))))))
noncomputable abbrev aki (L:cy) (p:ay) (X ah aB aK cV cW:I):bF I:=Y (bC L p 1297 (bP (H X) (e_ p (jw (ak 0) (ak 70) (Y (ak 64) s3) (ak 200))))) λOb=>gT (aV (H ah) (ns "cvt")) (H cW) Ob (aU p .Add (bC L p 1302 (bh (e_ p (bP (H cW) (aV (aV (H ah) (ns "cvt")) (H cW)))))) (ck L p (ai (.type "bytes")) (bh (e_ p (bh (ak 68))))))
noncomputable abbrev akj (L:cy) (p:ay) (X ah aB aK cV cW:I):bF I:=Y (bC L p 1297 (bP (H X) (e_ p (dF (aU p .Add (aU p .Mult (ak 3) (ak 16)) (ak 8)) (aU p .Add (aU p .Mult (ak 3) (ak 16)) (ak 2)) (aU p .Add (aU p .Mult (ak 4) (ak 16)) (ak 15)))))) λNS=>Y (aV (Y (dF (ak 8) (Y (ak 48) s3) (ak 0)) λam4=>pr (new p (.cB (List.zip [56,50,79] am4)))) (H NS)) λIB=>b7 (b_ .NotEq (H IB) (ak 0)) (eH (bC L p 1330 (dF (H ah) (H aK) (H IB))) (Kg L p (X) (ah) (aB) (aK) (cV) (cW) (.undef) (.undef) (NS) (IB))) (Kg L p (X) (ah) (aB) (aK) (cV) (cW) (.undef) (.undef) (NS) (IB))
noncomputable abbrev U6 (L:cy) (p:ay) (X ah aB aK cV cW IC Ec:I):bF I:=aU p .Add (bC L p 1302 (bh (b7 (b_ .Lt (H Ec) (ak 2)) (e_ p (bh (H aK))) (e_ p (bP (H IC) (H aK)))))) (ck L p (ai (.type "bytes")) (bh (e_ p (bh (aV (Y (dF (ak 70) (ak 71) (ak 73)) (iK p)) (H Ec))))))
noncomputable abbrev akk (L:cy) (p:ay) (X ah aB aK cV cW:I):bF I:=Y (bC L p 1290 (bP (H X) (ck L p (ai (.bi "len")) (bh (aV (H ah) (ns "now")))))) λIC=>Y (bC L p 1290 (bP (H X) (ak 3))) λEc=>eH (cQ L p (aV (H ah) (ns "told")) "append" (bh (aV (e_ p (dF (aV (aV (aV (H ah) (ns "now")) (H aK)) (H cV)) (aV (aV (aV (H ah) (ns "was")) (H aK)) (H cV)) (bC L p 1337 (jw (H ah) (H IC) (H aK) (ns "now"))))) (H Ec)))) (U6 L p X ah aB aK cV cW IC Ec)
noncomputable abbrev U7 (L:cy) (p:ay) (X ah aB aK cV cW:I):bF I:=b7 (b_ .Eq (H aB) (ak 9)) (akl L p X ah aB aK cV cW) (b7 (b_ .Eq (H aB) (ak 10)) (akf L p X ah aB aK cV cW) (b7 (b_ .Eq (H aB) (ak 11)) (akg L p X ah aB aK cV cW) (b7 (b_ .Eq (H aB) (ak 12)) (akh L p X ah aB aK cV cW) (b7 (b_ .Eq (H aB) (ak 13)) (aki L p X ah aB aK cV cW) (b7 (b_ .Eq (H aB) (ak 14)) (akj L p X ah aB aK cV cW) (akk L p X ah aB aK cV cW))))))
noncomputable abbrev ake (L:cy) (p:ay) (X ah aB aK:I):bF I:=Y (eM (bP (aV (H ah) (ns "axis")) (bC L p 1290 (bP (H X) (ak 3))))) λe8=>ie e8 λcV cW=>U7 L p X ah aB aK cV cW
theorem anM {X ah aB aK:I}:body L p 1380 [X,ah,aB,aK]=(ake L p X ah aB aK).bB:=by kernel_rfl
end Mine.Q
namespace Mine.lK
section
variable {N:gg} {G bu:bl} {B bU:eT}
theorem al0 (b):ju (.ref (N.f .own)) (.str "axis") (.int (fP b)) ⟨aF N G B,k⟩=some ((),⟨aF N G {B with t:={B.t with cL:=b}},k⟩):=by
 have e:aF N G B (N.f .own)=some (.jn (xj N B)):=jB rfl
 have bK:decide ((xj N B).length<1000)=true:=rfl
 show Y (obj _) _ _=_
 simp only[Y,obj,sF,e,bK,jW,upd]
 refine cJ (λh=>some ((),bL.mk h k)) ?_
 exact xe (i:=.own) rfl λj aW=>by rcases j with _|_<;>first|rfl|exact absurd rfl aW
theorem al2 (c):ju (.ref (N.f .own)) (.str "round") (.int c) ⟨aF N G B,k⟩=some ((),⟨aF N G {B with t:={B.t with round:=c}},k⟩):=by
 have e:aF N G B (N.f .own)=some (.jn (xj N B)):=jB rfl
 have bK:decide ((xj N B).length<1000)=true:=rfl
 show Y (obj _) _ _=_
 simp only[Y,obj,sF,e,bK,jW,upd]
 refine cJ (λh=>some ((),bL.mk h k)) ?_
 exact xe (i:=.own) rfl λj aW=>by rcases j with _|_<;>first|rfl|exact absurd rfl aW
theorem akb (aN:c<B.t.bf.length) (aP:B.t.bf.length<=100) (v):ju (.ref (N.f .bf)) (.int (c:Nat)) (.int v) ⟨aF N G B,k⟩=some ((),⟨aF N G {B with t:={B.t with bf:=B.t.bf.set c v}},k⟩):=by
 have key:(aF N G B).set (N.f .bf) (.list ((B.t.bf.map I.int).set c (.int v)))=aF N G {B with t:={B.t with bf:=B.t.bf.set c v}}:=by
  refine xe (i:=.bf) ?_ λj aW=>by rcases j with _|_<;>first|rfl|exact absurd rfl aW
  show some (cw.list ((B.t.bf.set c v).map I.int))=_
  rw[List.map_set]
 rw[<-key]
 exact tn (C:=⟨aF N G B,k⟩) (i:=c) (v:=.int v) (jB (i:=.bf) rfl) (by simpa using aN) (by simp;omega)
theorem ajv:i0 (.ref (N.f .told)) "append" ⟨aF N G B,k⟩=some (.bi "list.append",⟨aF N G B,k⟩):=by
 have e:aF N G B (N.f .told)=some (.list (B.t.told.map I.int)):=jB rfl
 show Y (obj _) _ _=_
 simp only[Y,obj,e]
 rfl
theorem MR (aP:B.t.told.length<=100) (q) (v):builtin q "list.append" [.ref (N.f .told),.int v] ⟨aF N G B,k⟩=some (.none,⟨aF N G {B with t:=B.t.dw (B.t.told++[v])},k⟩):=by
 have key:(aF N G B).set (N.f .told) (.list (B.t.told.map I.int++[.int v]))=aF N G {B with t:=B.t.dw (B.t.told++[v])}:=by
  refine xe (i:=.told) ?_ λj aW=>by rcases j with _|_<;>first|rfl|exact absurd rfl aW
  show some (cw.list ((B.t.told++[v]).map I.int))=_
  rw[qd];rfl
 have e:aF N G B (N.f .told)=some (.list (B.t.told.map I.int)):=jB rfl
 show Y (obj _) _ _=_
 rw[<-key]
 simp only[Y,obj,jb,e]
 have bK:decide ((B.t.told.map I.int).length<100000)=true:=by simp;omega
 simp only[bK,jW,Y,upd,ai]
theorem Yw (b):1 -fP b=fP (!b):=by rcases b with _|_<;>rfl
theorem Yv (b):fP b=((oQ b:Nat):Int):=by rcases b with _|_<;>rfl
theorem ak9 (Z:c7 N q) (F:B.t.cG m):∃c a b,c<3/\aJ (n+2) q 1290 [.ref (N.f .src),.int 3] ⟨aF N G B,0⟩=some (.int (c:Nat),⟨aF N G (B.src a b),1⟩):=
 (ur (n:=n+1) (N:=N) (G:=G) (B:=B) (p:=q) (k:=0) (Z.sub _) (gm:=3) (by decide) (by decide) B.c9 B.tg).elim λc z=>z.elim λa z=>z.elim λb z=>⟨c,a,b,Int.ofNat_lt.mp z.2,z.1⟩
theorem zm (Z:c7 N (k::p)) (aW:∀j,k<=j->¬(j::p)<:+B.eE) (F:B.t.cG m)
  (r:∀c a b,c<3->uJ N (k::p) m ao B (Q.go ((Q.U7 (aJ (n+2)) (k::p) (.ref (N.f .src)) (.ref (N.f .own)) (.int aB) (.int (i:Nat)) (.int (fP B.t.cL)) (.int (c:Nat))).cps Q.ret) ⟨aF N G (B.src a b),1⟩)):
  lI N p k m ao B (aJ (n+3) p 1380 [.ref (N.f .src),.ref (N.f .own),.int aB,.int (i:Nat)] ⟨aF N G B,k⟩):=
 (ak9 (n:=n) (N:=N) (G:=G) (B:=B) (q:=k::p) Z F).elim λc z=>z.elim λa z=>z.elim λb z=>RV aW rfl Q.anM<|aM vN<|aM z.2<|r c a b z.1
theorem agZ (Z:c7 N q):iK q [a,b,c,d] ⟨aF N G B,k⟩=some (.ref (k::q),⟨aF N (G.set (k::q) (.list [a,b,c,d])) B,k+1⟩):=gV Z
theorem ag0 (Z:c7 N q):iK q [a,b,c,d,e,f] ⟨aF N G B,k⟩=some (.ref (k::q),⟨aF N (G.set (k::q) (.list [a,b,c,d,e,f])) B,k+1⟩):=gV Z
theorem q8 {P:b9->Prop} (h:a∈b::l) (g6:P b) (gK:a∈l->P a):P a:=(List.mem_cons.mp h).elim (λe=>e▸g6) gK
theorem ME {P:Prop} (h:a∈([]:List b9)):P:=nomatch h
theorem abh {P:I->Prop} (h:v∈([.int 24,.int 25,.int 61,.int 125,.int 124,.int 122]:List I)) (k:∀o:Nat,l6 (o:Int)->o<256->P (.int (o:Nat))):P v:=
 q8 h (k 24 (.inl rfl) (by decide)) λh=>q8 h (k 25 (.inr (.inl rfl)) (by decide)) λh=>q8 h (k 61 (.inr (.inr (.inl rfl))) (by decide)) λh=>q8 h (k 125 (.inr (.inr (.inr (.inl rfl)))) (by decide)) λh=>q8 h (k 124 (.inr (.inr (.inr (.inr (.inl rfl))))) (by decide)) λh=>q8 h (k 122 (.inr (.inr (.inr (.inr (.inr rfl))))) (by decide)) ME
theorem aoF {P:I->Prop} (h:v∈([.int 0,.int 70,.int (-64),.int 200]:List I)) (k:∀o:Int,kn o->P (.int o)):P v:=
 q8 h (k 0 ⟨by decide,by decide⟩) λh=>q8 h (k 70 ⟨by decide,by decide⟩) λh=>q8 h (k (-64) ⟨by decide,by decide⟩) λh=>q8 h (k 200 ⟨by decide,by decide⟩) ME
theorem amd {q r:ay} {af:eT} (Z:c7 N q) (fc:N.g r=none) (cO:G r=some (.list aa)) (b) (aP:b<=aa.length) (hz:aa.length<1000):slice q (.ref r) .none (.int (b:Nat)) .none ⟨aF N G af,x⟩=some (.ref (x::q),⟨aF N (G.set (x::q) (.list (aa.take b))) af,x+1⟩):=by
 have h:(aF N G af) r=some (.list aa):=(kE fc).trans cO
 show Y (obj _) _ _=_
 simp only[Y,obj,jb,h]
 have e:(decide (0<=((b:Nat):Int))&&decide (((b:Nat):Int)<=aa.length)&&decide (aa.length<=100000))=true:=by simp;omega
 simp only[e,jW,new,ue Z,Int.toNat_natCast]
theorem amb {q r:ay} {af:eT} (Z:c7 N q) (fc:N.g r=none) (cO:G r=some (.list aa)) (b) (aP:b<=aa.length) (hz:aa.length<1000):slice q (.ref r) (.int (b:Nat)) .none .none ⟨aF N G af,x⟩=some (.ref (x::q),⟨aF N (G.set (x::q) (.list (aa.drop b))) af,x+1⟩):=by
 have h:(aF N G af) r=some (.list aa):=(kE fc).trans cO
 show Y (obj _) _ _=_
 simp only[Y,obj,jb,h]
 have e:(decide (0<=((b:Nat):Int))&&decide (((b:Nat):Int)<=aa.length)&&decide (aa.length<=100000))=true:=by simp;omega
 simp only[e,jW,new,ue Z,Int.toNat_natCast]
theorem aiH (Z:c7 N (k::p)) (cC:gS N G B) (aW:∀j,k<=j->¬(j::p)<:+B.eE) (O:B.t.Ok m) (aj:i<m):lI N p k m ao B (aJ (n+4) p 1380 [.ref (N.f .src),.ref (N.f .own),.int 9,.int (i:Nat)] ⟨aF N G B,k⟩):=
 zm Z aW O.fit λc a b aN=>by
  have aP:oQ B.t.cL<256:=by cases B.t.cL<;>decide
  have e:=Yv B.t.cL
  refine aM (Q.eqT rfl)<|aM (Q.gy (Yw B.t.cL▸al0 (!B.t.cL)))<|aM (gV Z)<|aM (Q.fR (e▸pP Z (oQ B.t.cL) _ _ aP _ _)) ?_
  exact rP (ins:=.cL) rfl cC (aW k (fu _)) rfl trivial rfl rfl rfl ((dz.refl _ _).set ⟨[1],rfl⟩ _) ⟨rfl,rfl,rfl⟩
theorem aiu (Z:c7 N (k::p)) (cC:gS N G B) (aW:∀j,k<=j->¬(j::p)<:+B.eE) (O:B.t.Ok m) (aj:i<m):lI N p k m ao B (aJ (n+4) p 1380 [.ref (N.f .src),.ref (N.f .own),.int 10,.int (i:Nat)] ⟨aF N G B,k⟩):=
 zm Z aW O.fit λc a b aN=>by
  obtain⟨v,iW,kW,T,bJ⟩:=HP (n:=n+1) (N:=N) (G:=G.set (1::k::p) (.list [.int 24,.int 25,.int 61,.int 125,.int 124,.int 122])) (B:=B.src a b) (p:=k::p) (k:=2) (Z.sub _) (r:=1::k::p) (gN Z 1) cP (by decide) (by decide)
  revert T
  refine abh (P:=λv=>aJ (n+3) (k::p) 1297 [.ref (N.f .src),.ref (1::k::p)] ⟨aF N (G.set (1::k::p) (.list [.int 24,.int 25,.int 61,.int 125,.int 124,.int 122])) (B.src a b),2⟩=some (v,⟨aF N (G.set (1::k::p) (.list [.int 24,.int 25,.int 61,.int 125,.int 124,.int 122])) (B.src iW kW),3⟩)->_) bJ λo aN bw T=>?_
  refine aM (Q.eN (by decide))<|aM (Q.eqT rfl)<|aM (ag0 Z)<|aM T<|aM (Q.gy (al2 (o:Int)))<|aM Ov<|aM (gV Z)<|aM (Q.fR (pP Z o _ _ bw _ _)) ?_
  exact rP (ins:=.round o) rfl cC (aW k (fu _)) rfl aN rfl rfl rfl (((dz.refl _ _).set ⟨[1],rfl⟩ _).set ⟨[3],rfl⟩ _) ⟨rfl,rfl,rfl⟩
theorem aix (Z:c7 N (k::p)) (cC:gS N G B) (aW:∀j,k<=j->¬(j::p)<:+B.eE) (O:B.t.Ok m) (aj:i<m):lI N p k m ao B (aJ (n+4) p 1380 [.ref (N.f .src),.ref (N.f .own),.int 13,.int (i:Nat)] ⟨aF N G B,k⟩):=
 zm Z aW O.fit λc a b aN=>by
  obtain⟨v,iW,kW,T,bJ⟩:=HP (n:=n+1) (N:=N) (G:=G.set (1::k::p) (.list [.int 0,.int 70,.int (-64),.int 200])) (B:=B.src a b) (p:=k::p) (k:=2) (Z.sub _) (r:=1::k::p) (gN Z 1) cP (by decide) (by decide)
  revert T
  refine aoF (P:=λv=>aJ (n+3) (k::p) 1297 [.ref (N.f .src),.ref (1::k::p)] ⟨aF N (G.set (1::k::p) (.list [.int 0,.int 70,.int (-64),.int 200])) (B.src a b),2⟩=some (v,⟨aF N (G.set (1::k::p) (.list [.int 0,.int 70,.int (-64),.int 200])) (B.src iW kW),3⟩)->_) bJ λo nA T=>?_
  have gJ:c<B.t.bf.length:=O.fit.pQ aN
  have sI:c<(B.t.bf.set c o).length:=List.length_set.symm▸gJ
  have p7:(B.t.bf.set c o).getD c 0=o:=by rw[kU,ET gJ];rfl
  have wF:=λbu x=>(MW (N:=N) (G:=bu) (k:=x) (B:={B.src iW kW with t:={B.t with bf:=B.t.bf.set c o}}) sI (List.length_set.symm▸O.fit.yj)).trans (cJ (λv=>some (I.int v,bL.mk (aF N bu {B.src iW kW with t:={B.t with bf:=B.t.bf.set c o}}) x)) p7)
  refine aM (Q.eN (by decide))<|aM (Q.eN (by decide))<|aM (Q.eN (by decide))<|aM (Q.eN (by decide))<|aM (Q.eqT rfl)<|aM (agZ Z)<|aM T<|aM IX<|aM (Q.gy (akb (B:=B.src iW kW) gJ O.fit.yj o))<|aM IX<|aM (wF _ _)<|aM (Dg Z)<|aM (Bb Z c o _ _ (by decide) _ _)<|aM (gV Z)<|aM (Q.fR (pP Z 68 _ _ (by decide) _ _))<|aM (sG _ [(c:Int),o] (show 2<=10 by decide) _ _) ?_
  exact rP (ins:=.bf c o) rfl cC (aW k (fu _)) rfl ⟨aN,nA⟩ rfl rfl rfl ((((dz.refl _ _).set ⟨[1],rfl⟩ _).set ⟨[3],rfl⟩ _).set ⟨[5],rfl⟩ _) ⟨rfl,rfl,rfl⟩
end
section
variable {N:gg} {G bu:bl} {B bU:eT} {i m:Nat}
theorem aju (F:B.t.cG m) (q) (x):builtin q "len" [.ref (N.f .now)] ⟨aF N G B,x⟩=some (.int m,⟨aF N G B,x⟩):=by
 have h:=o6 (p:=q) (C:=⟨aF N G B,x⟩) (r:=N.f .now) (jB rfl) (by have:=F.now;have:=F.ia;simp[iE];omega)
 rw[h];simp[iE,F.now]
theorem ajS (j x) (t) (gc) (a b) (rows):aF N G {t:=t.point j x,eE:=gc,c9:=a,tg:=b,rows:=rows}=aF N G {t:=t,eE:=gc,c9:=a,tg:=b,rows:=rows}:=by
 unfold T.point
 split
 .rfl
 .split<;>rfl
theorem aiv (Z:c7 N (k::p)) (cC:gS N G B) (aW:∀j,k<=j->¬(j::p)<:+B.eE) (O:B.t.Ok m) (aj:i<m):lI N p k m ao B (aJ (n+4) p 1380 [.ref (N.f .src),.ref (N.f .own),.int 11,.int i] ⟨aF N G B,k⟩):=
 zm Z aW O.fit λc a b aN=>by
  obtain⟨g,iW,kW,T,g5⟩:=ur (Z.sub _) (gm:=3) (by decide) (by decide) a b
  have rS:g<3:=Int.ofNat_lt.mp g5
  have gc:∀x,B.eE≠x::k::p:=λx e=>aW k (fu _) (by rw[e];exact⟨[x],rfl⟩)
  obtain⟨ns,mQ,aI⟩:∃ns:List Int,ns=[cY B.t.cI,cY B.t.cT,cY B.t.dO]/\ns.length=3:=⟨_,rfl,rfl⟩
  have cO:G B.eE=some (.list (ns.map I.int)):=mQ▸cC.at_
  have bJ:(ns.map I.int).length=3:=(fD ..).trans aI
  have mS:(ns.take g).length<=3:=by rw[BY,aI];exact Nat.min_le_right _ _
  have q4:(ns.drop (g+1)).length<=3:=by rw[Jd,aI];exact BV _ _
  have pB:=λaf=>List.map_take▸amd (af:=af) (x:=2) Z cC.g cO g (bJ▸sq rS) (bJ▸by decide)
  generalize R4:G.set (2::k::p) (.list ((ns.take g).map I.int))=oh at pB
  generalize wR:oh.set (3::k::p) (.list [.int i])=z9
  have sE:=λaf=>Fe (B:=af) (x:=ns.take g) (y:=[cY i]) (G:=z9) (bq:=4) Z (gN Z 2) (gN Z 3) (by rw[<-wR,dP (by simp),<-R4,cP]) (by rw[<-wR,cP];rfl) (dg (EW mS 1) (by decide))
  generalize AM:z9.set (4::k::p) (.list ((ns.take g++[cY i]).map I.int))=vV at sE
  have VX:=λaf=>List.map_drop (f:=I.int)▸amb (af:=af) (x:=5) (G:=vV) (aa:=ns.map I.int) Z cC.g (by rw[<-AM,dP (gc _),<-wR,dP (gc _),<-R4,dP (gc _),cO]) (g+1) (bJ▸rS) (bJ▸by decide)
  generalize R5:vV.set (5::k::p) (.list ((ns.drop (g+1)).map I.int))=Xh at VX
  have yd:=λaf=>Fe (B:=af) (x:=ns.take g++[cY i]) (y:=ns.drop (g+1)) (G:=Xh) (bq:=6) Z (gN Z 4) (gN Z 5) (by rw[<-R5,dP (by simp),<-AM,cP]) (by rw[<-R5,cP]) (by rw[gO];exact dg (mG (EW mS 1) q4) (by decide))
  refine aM (Q.eN (by decide))<|aM (Q.eN (by decide))<|aM (Q.eqT rfl)<|aM T<|aM lg<|aM (pB _)<|aM ((gV Z).trans (cJ (λG=>some (I.ref (3::k::p),bL.mk (aF N G _) 4)) wR))<|aM (sE _)<|aM lg<|aM (VX _)<|aM (yd _)<|aM BK<|aM (gV Z)<|aM (Ib Z i _ _ (by decide) _ _)<|aM (gV Z)<|aM (Q.fR (pP Z (16+g) _ _ (by omega) _ _))<|aM (sG _ [cY i] (show 1<=10 by decide) _ _) ?_
  refine CP (ins:=.point g i) rfl Z rfl ⟨rS,aj⟩ (ajS ..).symm rfl rfl ?_
  rw[dP (by simp),dP (by simp),cP,mQ]
  rcases(by omega:g=0\/g=1\/g=2)with rfl|rfl|rfl<;>rfl
theorem abS {P:I->Prop} (h:v∈([.int (3*16+8),.int (3*16+2),.int (4*16+15)]:List I)) (k:∀o:Int,o=56\/o=50\/o=79->List.lookup o [(56,I.int 8),(50,I.int (-48)),(79,I.int 0)]=some (I.int (qU o))->P (.int o)):P v:=
 q8 h (k 56 (.inl rfl) rfl) λh=>q8 h (k 50 (.inr (.inl rfl)) rfl) λh=>q8 h (k 79 (.inr (.inr rfl)) rfl) ME
theorem U5 {af:eT} (Z:c7 N q) (cC:gS N G B) (bG:¬q<:+B.eE) (f6:dz q G bu) (aj:i<m) (nA:o=56\/o=50\/o=79) (bY:af.t=(fT.delta i o).apply ao B.t) (jO:af.rows=B.rows) (aQ:af.eE=B.eE) (cj:af.t.cI=B.t.cI/\af.t.cT=B.t.cT/\af.t.dO=B.t.dO):
  uJ N q m ao B (Q.go ((Q.Kg (aJ (n+3)) q X (.ref (N.f .own)) aB (.int i) cV cW f_ kH (.int o) jE).cps Q.ret) ⟨aF N bu af,x⟩):=by
 refine aM (t_ Z)<|aM (DA Z (ns:=[o,(i:Nat),1]) x (show 0<3 by decide) (show 3<=10 by decide) _ (z5 _) cP)<|aM (gV Z)<|aM (Q.fR (pP Z 93 _ _ (by decide) _ _))<|aM (sG _ [o,(i:Nat),1] (show 3<=10 by decide) _ _) ?_
 exact rP (ins:=.delta i o) rfl cC bG rfl ⟨aj,nA⟩ bY jO aQ ((f6.set ⟨[x],rfl⟩ _).set ⟨[x+1+1],rfl⟩ _) cj
theorem aiy (Z:c7 N (k::p)) (cC:gS N G B) (aW:∀j,k<=j->¬(j::p)<:+B.eE) (O:B.t.Ok m) (aj:i<m):lI N p k m ao B (aJ (n+4) p 1380 [.ref (N.f .src),.ref (N.f .own),.int 14,.int i] ⟨aF N G B,k⟩):=
 zm Z aW O.fit λc a b aN=>by
  have jj:∀{q C},fk q .Mult (.int 3) (.int 16) C=some (.int 48,C):=λ{q C}=>q9 (by decide) (by decide)
  have iB:∀{q C},fk q .Mult (.int 4) (.int 16) C=some (.int 64,C):=λ{q C}=>q9 (by decide) (by decide)
  obtain⟨v,iW,kW,T,bJ⟩:=HP (G:=G.set (1::k::p) (.list [.int 56,.int 50,.int 79])) (Z.sub _) (gN Z 1) cP (by decide) (by decide)
  revert T
  refine abS (P:=λv=>aJ (n+3) (k::p) 1297 [.ref (N.f .src),.ref (1::k::p)] ⟨aF N (G.set (1::k::p) (.list [.int 56,.int 50,.int 79])) (B.src a b),2⟩=some (v,⟨aF N (G.set (1::k::p) (.list [.int 56,.int 50,.int 79])) (B.src iW kW),3⟩)->_) bJ λo nA aI T=>?_
  have f6:=((dz.refl (k::p) G).set ⟨[1],rfl⟩ (.list [.int 56,.int 50,.int 79])).set ⟨[3],rfl⟩ (.cB [(56,.int 8),(50,.int (-48)),(79,.int 0)])
  have bG:=aW k (fu _)
  refine aM (Q.eN (by decide))<|aM (Q.eN (by decide))<|aM (Q.eN (by decide))<|aM (Q.eN (by decide))<|aM (Q.eN (by decide))<|aM (Q.eqT rfl)<|aM jj<|aM jj<|aM iB<|aM (t_ Z)<|aM T<|aM (gV Z)<|aM (La (gN Z 3) aI) ?_
  by_cases cj:qU o=0
  .exact aM (Q.ua cj)<|U5 Z cC bG f6 aj nA (show B.t=lK.T.delta B.t i o by unfold lK.T.delta;rw[bT cj]) rfl rfl ⟨rfl,rfl,rfl⟩
  .exact aM (Q.neT cj)<|aM (uc (B:=B.src iW kW) (Z.sub _) O.fit aj _)<|U5 Z cC bG f6 aj nA (show B.t.go i (qU o)=lK.T.delta B.t i o by unfold lK.T.delta;rw[bX cj]) rfl rfl ⟨rfl,rfl,rfl⟩
theorem an3 (h:w<3):w=0\/w=1\/w=2:=by omega
theorem C9 {af:eT} (Z:c7 N q) (h:m8[w]?=some v) (eL:w<3):item (.ref (j::q)) (.int (w:Nat)) ⟨aF N (G.set (j::q) (.list m8)) af,x⟩=some (v,⟨aF N (G.set (j::q) (.list m8)) af,x⟩):=
 jz ((kE (gN Z j)).trans cP) h (fV eL (by decide))
theorem MV {ins:fT} {w g o x:Nat} {ns:List Int} {af:eT} (Z:c7 N q) (cC:gS N G B) (bG:¬q<:+B.eE) (f6:dz q G bu) (eL:w<3) (bY:B.t.told.length<=100) (oz:af.t=B.t) (jO:af.rows=B.rows) (aQ:af.eE=B.eE)
  (mQ:(if w<2 then ns=[(i:Int)]else ns=[(g:Int),i])) (bw:([.int 70,.int 71,.int 73]:List I)[w]?=some (.int o)) (wY:o<256) (oW:gz ns++[o]=ins.enc B.t) (bJ:ins.Valid m) (nw:B.t.dw (B.t.told++[v])=ins.apply ao B.t):
  uJ N q m ao B (Q.go ((Q.U6 (aJ (n+3)) q X (.ref (N.f .own)) aB (.int i) cV cW (.int g) (.int w)).cps Q.ret) ⟨aF N bu {af with t:=B.t.dw (B.t.told++[v])},x⟩):=by
 by_cases aE:w<2
 .rw[bT aE]at mQ
  refine aM (Q.j_ (Int.ofNat_lt.mpr aE))<|aM (gV Z)<|aM (Ib Z i _ _ (z5 _) _ _)<|aM (t_ Z)<|aM (C9 Z bw eL)<|aM (gV Z)<|aM (Q.fR (pP Z o _ _ wY _ _))<|aM (sG _ [cY i] (show 1<=10 by decide) _ _) ?_
  exact rP rfl cC bG (mQ▸oW) bJ nw jO aQ (((f6.set ⟨[x],rfl⟩ _).set ⟨[x+1+1],rfl⟩ _).set ⟨[x+1+1+1],rfl⟩ _) ⟨rfl,rfl,rfl⟩
 .rw[bX aE]at mQ
  refine aM (Q.kQ λz=>aE (Int.ofNat_lt.mp z))<|aM (Dg Z)<|aM (Bb Z g i _ _ (z5 _) _ _)<|aM (t_ Z)<|aM (C9 Z bw eL)<|aM (gV Z)<|aM (Q.fR (pP Z o _ _ wY _ _))<|aM (sG _ [g,i] (show 2<=10 by decide) _ _) ?_
  exact rP rfl cC bG (mQ▸oW) bJ nw jO aQ (((f6.set ⟨[x],rfl⟩ _).set ⟨[x+1+1],rfl⟩ _).set ⟨[x+1+1+1],rfl⟩ _) ⟨rfl,rfl,rfl⟩
theorem aiz {n_:Int} (eL:14<n_) (bY:B.t.told.length<=100) (Z:c7 N (k::p)) (cC:gS N G B) (aW:∀j,k<=j->¬(j::p)<:+B.eE) (O:B.t.Ok m) (aj:i<m):lI N p k m ao B (aJ (n+4) p 1380 [.ref (N.f .src),.ref (N.f .own),.int n_,.int i] ⟨aF N G B,k⟩):=
 zm Z aW O.fit λc a b aN=>by
  have F:=O.fit
  obtain⟨g,iW,kW,XR,g5⟩:=ur (Z.sub _) (Int.ofNat_lt.mpr (Nat.zero_lt_of_lt aj)) (Int.lt_of_le_of_lt (Int.ofNat_le.mpr F.ia) (by decide)) a b
  obtain⟨w,pM,wj,XS,aeS⟩:=ur (Z.sub _) (gm:=3) (by decide) (by decide) iW kW
  have rS:=Int.ofNat_lt.mp g5
  have aeR:=Int.ofNat_lt.mp aeS
  have bG:=aW k (fu _)
  have f6:=(dz.refl (k::p) G).set ⟨[4],rfl⟩ (.list [.int (d9 B.t.cL (B.t.now.getD i (0,0))),.int (d9 B.t.cL (B.t.cF.getD i (0,0))),.int (B.t.P g -B.t.P i)])
  have jr:∀{c:Int},c<=14->¬n_=c:=λh e=>absurd (e▸eL) (Int.not_lt.mpr h)
  refine aM (Q.eN (jr (by decide)))<|aM (Q.eN (jr (by decide)))<|aM (Q.eN (jr (by decide)))<|aM (Q.eN (jr (by decide)))<|aM (Q.eN (jr (by decide)))<|aM (Q.eN (jr (by decide)))<|aM lV<|aM (Q.iy (aju (B:=B.src a b) F _ _))<|aM XR<|aM XS<|aM aoN<|aM ajv<|aM lV<|aM (qv (F.ak aj) F.dM)<|aM (vt (F.ak aj))<|aM vM<|aM (vq (F.gH aj) F.k_)<|aM (zo (F.gH aj))<|aM (zj F rS aj)<|aM (t_ Z) ?_
  rcases an3 aeR with rfl|rfl|rfl
  .exact aM (C9 Z rfl (by decide))<|aM (Q.iy (MR (B:=B.src pM wj) bY _ _))<|MV (ins:=.q0 i false) Z cC bG f6 (by decide) bY rfl rfl rfl rfl rfl (by decide) rfl aj rfl
  .exact aM (C9 Z rfl (by decide))<|aM (Q.iy (MR (B:=B.src pM wj) bY _ _))<|MV (ins:=.q0 i true) (w:=1) (o:=71) Z cC bG f6 (by decide) bY rfl rfl rfl rfl rfl (by decide) rfl aj rfl
  .exact aM (C9 Z rfl (by decide))<|aM (Q.iy (MR (B:=B.src pM wj) bY _ _))<|MV (ins:=.ic g i) (w:=2) (o:=73) Z cC bG f6 (by decide) bY rfl rfl rfl rfl rfl (by decide) rfl ⟨rS,aj⟩ rfl
end
noncomputable def P1 (a n x k:Nat):Nat:=a+(x+n -k)%n
noncomputable def RS (a n x k:Nat):Nat:=a+(x+k)%n
noncomputable def nQ (f:Nat->Bool) (a n x:Nat):List Nat:=((List.range' 1 n).filter λk=>f (P1 a n x k)).map (P1 a n x)
noncomputable def nU (f:Nat->Bool) (a n x:Nat):List Nat:=((List.range' 1 n).filter λk=>f (RS a n x k)).map (RS a n x)
noncomputable def zp (f:Nat->Bool) (a e:Nat) (aC:List Nat) (R:List Nat):List (Nat×Nat×Nat):=R.flatMap λx=>(mX aC a e x).map λi=>(i,aC.getD x 0,kg aC x)
noncomputable def r7 (f:Nat->Bool) (a n:Nat):List (Nat×Nat×Nat):=((List.range' a n).filter λi=>!f i).map λi=>(i,(nQ f a n (i -a)).getD 0 0,(nU f a n (i -a)).getD 0 0)
noncomputable def zM:List Nat->Bool
 |[]=>true
 |i::l=>!l.contains i&&zM l
noncomputable def FH (f:Nat->Bool) (a n:Nat):Bool:=
 let aC:=(List.range' a n).filter f
 let P:=zp f a (a+n -1) aC (List.range aC.length)
 let Q:=r7 f a n
 aC.isEmpty || ((List.range aC.length).all (λx=>f (aC.getD x 0)&&f (kg aC x)&&(mX aC a (a+n -1) x).all λi=>!f i)&&zM (P.map (·.1))&&zM (Q.map (·.1))&&(List.range 7).all λj=>P.lookup j==Q.lookup j)
 &&Q.all λx=>nQ f a n (x.1 -a) != []&&nU f a n (x.1 -a) != []
noncomputable def Cw (l:List Bool) (a n:Nat):Bool:=FH (λi=>l.getD i false) a n
noncomputable def Hw:Nat->List (List Bool)
 |0=>[[]]
 |k+1=>(Hw k).flatMap λl=>[true::l,false::l]
noncomputable def Bw:List (Nat×Nat):=[(0,4),(0,5),(0,6),(0,7),(0,2),(0,3),(2,2),(2,3),(3,3),(3,4)]
theorem aba:((Hw 7).all λl=>Bw.all λr=>Cw l r.1 r.2)=true:=by kernel_rfl
noncomputable def lE (b:Bool):List (Nat×Int)->List (Int×Int)->List (Int×Int)
 |[],n=>n
 |x::l,n=>lE b l (n.set x.1 (up b (n.getD x.1 (0,0)) x.2))
theorem M7 (b):∀l n,(lE b l n).length=n.length
 |[],_=>rfl
 |x::l,n=>by rw[lE,M7 b l,B3]
theorem M5 (b):∀l fX n,lE b (l++fX) n=lE b fX (lE b l n)
 |[],_,_=>rfl
 |x::l,fX,n=>by rw[List.cons_append,lE,lE,M5 b l]
theorem M8 (b):∀l n,(∀x∈l,x.1≠j)->(lE b l n)[j]?=n[j]?
 |[],_,_=>rfl
 |x::l,n,h=>by
  rw[lE,M8 b l _ λy cM=>h y (i9 _ cM),vQ (h x jH)]
theorem M6 (b) (j):∀l n,zM (l.map (·.1))=true->(lE b l n)[j]?=match l.lookup j with
  |some v=>n[j]?.map λq=>up b q v
  |none=>n[j]?
 |[],_,_=>rfl
 |(i,v)::l,n,h=>by
  rw[nN,zM,gI]at h
  rw[lE,List.lookup_cons]
  by_cases e:j=i
  .subst e
   have bG:∀x∈l,x.1≠j:=λx bE e=>by
    have:=h.1
    simp at this
    exact this _ (by rw[<-e];exact bE)
   rw[M8 b l _ bG]
   simp only[qE]
   by_cases aI:j<n.length
   .rw[ET aI,kU,h7 aI];rfl
   .rw[sd (by simpa using aI),sd (by simpa using aI)];rfl
  .rw[M6 b j l _ h.2,vQ (λz=>e z.symm)]
   have:(j==i)=false:=by simpa using e
   rw[this]
theorem Mt (F:Nat×b9->ef) (j):∀l:List (Nat×b9),(l.map λx=>(x.1,F x)).lookup j=(l.lookup j).map λv=>F (j,v)
 |[]=>rfl
 |(i,v)::l=>by
  rw[nN,List.lookup_cons,List.lookup_cons]
  by_cases e:j=i
  .subst e;simp
  .have:(j==i)=false:=by simpa using e
   simp only[this]
   exact Mt F j l
noncomputable def T.m6 (t:T) (b:Bool) (x:Nat×Nat×Nat):Int:=Ay (d9 b (t.cF.getD x.1 (0,0))) (t.lo b x.2.1 x.2.2) (t.aj b x.2.1 x.2.2)
theorem Vq (b) (f l):∀(ns:List Nat) (t:T) (jr:List (Int×Int)),ns.foldl (T.p5 b f l) {t with now:=jr}={t with now:=lE b (ns.map λi=>(i,Ay (d9 b (t.cF.getD i (0,0))) f l)) jr}
 |[],t,jr=>rfl
 |i::ns,t,jr=>by
  rw[List.foldl_cons,nN,lE]
  exact Vq b f l ns t _
theorem Rb {b:Bool} {aC:List Nat} {t:T}:∀(R:List Nat),(∀x∈R,f (aC.getD x 0)=true/\f (kg aC x)=true/\∀i∈mX aC a e x,f i=false)->∀jr:List (Int×Int),(∀j,f j=true->jr.getD j (0,0)=t.now.getD j (0,0))->
  R.foldl (T.oU b aC a e) {t with now:=jr}={t with now:=lE b ((zp f a e aC R).map λx=>(x.1,t.m6 b x)) jr}
 |[],_,jr,_=>rfl
 |x::R,h,jr,bG=>by
  obtain⟨az,aE,b8⟩:=h x jH
  have kF:T.jS {t with now:=jr} b (aC.getD x 0)=t.jS b (aC.getD x 0):=by unfold T.jS;simp only[bG _ az]
  have i6:T.jS {t with now:=jr} b (kg aC x)=t.jS b (kg aC x):=by unfold T.jS;simp only[bG _ aE]
  have bk:T.lo {t with now:=jr} b (aC.getD x 0) (kg aC x)=t.lo b (aC.getD x 0) (kg aC x):=by unfold T.lo;rw[kF,i6]
  have bK:T.aj {t with now:=jr} b (aC.getD x 0) (kg aC x)=t.aj b (aC.getD x 0) (kg aC x):=by unfold T.aj;rw[kF,i6]
  rw[List.foldl_cons]
  have pB:T.oU b aC a e {t with now:=jr} x={t with now:=lE b ((mX aC a e x).map λi=>(i,t.m6 b (i,aC.getD x 0,kg aC x))) jr}:=by
   unfold T.oU
   rw[bk,bK,Vq]
   rfl
  rw[pB,Rb (t:=t) (f:=f) R (λy cM=>h y (i9 _ cM)) _ ?_]
  .have gJ:(zp f a e aC (x::R)).map (λx=>(x.1,t.m6 b x))=((mX aC a e x).map λi=>(i,t.m6 b (i,aC.getD x 0,kg aC x)))++(zp f a e aC R).map λx=>(x.1,t.m6 b x):=by
    unfold zp
    rw[List.flatMap_cons,qd,rF]
    rfl
   rw[gJ,M5]
  .intro j aW
   have off:∀y∈(mX aC a e x).map (λi=>(i,t.m6 b (i,aC.getD x 0,kg aC x))),y.1≠j:=λy cM=>by
    obtain⟨i,aj,rfl⟩:=List.mem_map.mp cM
    intro z
    have:=b8 i aj
    have nJ:i=j:=z
    rw[nJ,aW]at this
    exact absurd this (by decide)
   rw[<-bG j aW,kU,M8 b _ _ off,kU]
noncomputable def T.own (t:T) (b:Bool) (a n:Nat):T:=if(List.range' a n).filter (t.flag b)=[]then t else{t with now:=lE b ((r7 (t.flag b) a n).map λx=>(x.1,t.m6 b x)) t.now}
theorem Uo:∀k l,l.length=k->l∈Hw k
 |0,l,h=>by rw[List.length_eq_zero_iff.mp h];exact List.mem_singleton.mpr rfl
 |k+1,x::l,h=>by
  rw[Hw,List.mem_flatMap]
  exact⟨l,Uo k l (by simpa using h),by rcases x with _|_<;>simp⟩
theorem ado {t:T} (F:t.cG m) (b):(λi=>((List.range 7).map (t.flag b)).getD i false)=t.flag b:=by
 funext i
 rw[kU,jI]
 by_cases h:i<7
 .rw[z0 h];rfl
 .rw[sd (by simp;omega)]
  have e:t.cD[i]?=none:=by rw[Jl,F.cD];have:=F.ia;omega
  show false=_
  unfold T.flag
  rw[kU,e]
  rcases b with _|_<;>rfl
theorem ajk (h:(!b)=true):b=false:=by rcases b with _|_;rfl;exact h.symm
theorem aa9 {P:Prop} (c:FH f a n=true) (h:(List.range' a n).filter f≠[])
  (k:(∀x∈List.range ((List.range' a n).filter f).length,f (((List.range' a n).filter f).getD x 0)=true/\f (kg ((List.range' a n).filter f) x)=true/\∀i∈mX ((List.range' a n).filter f) a (a+n -1) x,f i=false)->
   zM ((zp f a (a+n -1) ((List.range' a n).filter f) (List.range ((List.range' a n).filter f).length)).map (·.1))=true->zM ((r7 f a n).map (·.1))=true->
   (∀j,j<7->(zp f a (a+n -1) ((List.range' a n).filter f) (List.range ((List.range' a n).filter f).length)).lookup j=(r7 f a n).lookup j)->(∀x∈r7 f a n,nQ f a n (x.1 -a)≠[]/\nU f a n (x.1 -a)≠[])->P):P:=by
 unfold FH at c
 dsimp only at c
 have fQ:=Bool.and_eq_true_iff.mp ((Bool.or_eq_true_iff.mp c).resolve_left λz=>h (List.isEmpty_iff.mp z))
 have iP:=Bool.and_eq_true_iff.mp fQ.1
 have pQ:=Bool.and_eq_true_iff.mp iP.1
 have uR:=Bool.and_eq_true_iff.mp pQ.1
 exact k (λx bE=>have y:=Bool.and_eq_true_iff.mp (List.all_eq_true.mp uR.1 x bE);⟨(Bool.and_eq_true_iff.mp y.1).1,(Bool.and_eq_true_iff.mp y.1).2,λi aj=>ajk (List.all_eq_true.mp y.2 i aj)⟩)
  uR.2 pQ.2 (λj aW=>zX (List.all_eq_true.mp iP.2 j (List.mem_range.mpr aW)))
  λx bE=>have y:=Bool.and_eq_true_iff.mp (List.all_eq_true.mp fQ.2 x bE);⟨bne_iff_ne.mp y.1,bne_iff_ne.mp y.2⟩
theorem alM:Bw.all (λr=>decide (0<r.2))=true:=by kernel_rfl
theorem akp {t:T} (F:t.cG m) (b:Bool) (aQ:(a,n)∈Bw):t.own b a n=t.qj b a (a+n -1)/\((List.range' a n).filter (t.flag b)≠[]->∀x∈r7 (t.flag b) a n,nQ (t.flag b) a n (x.1 -a)≠[]/\nU (t.flag b) a n (x.1 -a)≠[]):=by
 have bG:0<n:=kJ (List.all_eq_true.mp alM (a,n) aQ)
 have c:FH (t.flag b) a n=true:=ado F b▸List.all_eq_true.mp (List.all_eq_true.mp aba _ (Uo 7 ((List.range 7).map (t.flag b)) ((fD ..).trans uB))) _ aQ
 have ace:t.marks b a (a+n -1)=(List.range' a n).filter (t.flag b):=by
  unfold T.marks;rw[I8 (d5 bG (uD n a)),OJ]
 unfold T.own T.qj
 rw[ace]
 by_cases cj:(List.range' a n).filter (t.flag b)=[]
 .rw[bT cj,cj];exact⟨rfl,λh=>absurd rfl h⟩
 .rw[bX cj]
  refine aa9 c cj λfQ iP pQ uR wz=>⟨?_,λU=>wz⟩
  refine Eq.trans ?_ (Rb (t:=t) _ fQ t.now λU U=>rfl).symm
  refine cJ (λw=>{t with now:=w}) (List.ext_getElem? λj=>?_)
  by_cases aW:j<7
  .rw[M6 b j _ _ (by rw[rF];exact pQ),M6 b j _ _ (by rw[rF];exact iP),Mt,Mt,uR j aW]
  .have e:∀l,(lE b l t.now)[j]?=none:=λl=>sd (d5 (ng ((M7 b l _).trans F.now)) (d5 F.ia (BZ aW)))
   rw[e,e]
section
variable {N:gg} {G bu:bl} {B bU:eT}
theorem Bv (h:B.rows[c]?=some row):aF N G B (N.f (.gF c))=some (.list (row.map bZ)):=jB (by show B.rows[c]?.map _=_;rw[h];rfl)
theorem alI (h:B.rows[c]?=some row) (aW:j<row.length) (aI:row.length<100):item (.ref (N.f (.gF c))) (.int (j:Nat)) ⟨aF N G B,k⟩=some (.int (row.getD j 0),⟨aF N G B,k⟩):=
 jz (Bv h) (by rw[jI,h7 aW,kU,h7 aW];rfl) (by omega)
theorem alJ (h:B.rows[c]?=some row) (aI:row.length<100) (q):builtin q "len" [.ref (N.f (.gF c))] ⟨aF N G B,k⟩=some (.int row.length,⟨aF N G B,k⟩):=by
 have:=o6 (p:=q) (C:=⟨aF N G B,k⟩) (Bv h) (by simp;omega)
 simpa using this
theorem alK (h:B.rows[c]?=some row):i0 (.ref (N.f (.gF c))) "index" ⟨aF N G B,k⟩=some (.bi "list.index",⟨aF N G B,k⟩):=by
 show Y (obj _) _ _=_
 simp only[Y,obj,Bv h]
 rfl
theorem ae7 (l:List Nat) (i) (h:i∈l):((i:Nat):Int)∈l.map cY/\(l.map cY).idxOf (i:Int)=l.idxOf i:=by
 refine⟨List.mem_map.mpr ⟨i,h,rfl⟩,?_⟩
 clear h
 induction l with
 |nil=>rfl
 |cons a l ih=>
  rw[nN,List.idxOf_cons,List.idxOf_cons,ih]
  by_cases e:a=i
  .subst e;simp[cY]
  .have:(cY a==i)=false:=by simp[cY];omega
   have:(a==i)=false:=by simpa using e
   simp[*]
theorem alH (h:B.rows[c]?=some row) (aI:row.length<100) (aj:i∈row) (q:ay):builtin q "list.index" [.ref (N.f (.gF c)),.int (i:Nat)] ⟨aF N G B,k⟩=some (.int (row.idxOf i),⟨aF N G B,k⟩):=by
 show Y (obj _) _ _=_
 have bK:decide ((row.map bZ).length<=100000)=true:=by simp;omega
 simp only[Y,obj,jb,Bv h,bK,jW]
 rw[Om,GO]
 have gJ:=ae7 row i aj
 simp only[gU,gJ.1,qH,jW,gJ.2,ai]
theorem ae8 (a n i) (az:a<=i) (aE:i<a+n):(List.range' a n).idxOf i=i -a:=by
 induction n generalizing a with
 |zero=>omega
 |succ n ih=>
  rw[List.range'_succ,List.idxOf_cons]
  by_cases e:a=i
  .subst e;simp[]
  .have:(a==i)=false:=by simpa using e
   rw[this,ih (a+1) (by omega) (by omega)]
   simp;omega
theorem alq (a n j) (h:j<n):(List.range' a n).getD j 0=a+j:=by
 rw[kU,OO (by omega)];simp
theorem adt (x n k) (bI:k<=n) (bE:x<n):(((x:Nat):Int) -k).fmod n=((x+n -k)%n:Nat):=by
 have e:(x:Nat) -k=((x+n -k:Nat):Int) -n:=by omega
 rw[e,Int.sub_fmod_right]
 rw[xO _ (by omega)]
 rfl
theorem adu (x n k):(((x:Nat):Int)+(k:Nat)).fmod (n:Nat)=((x+k)%n:Nat):=by
 rw[xO _ (by omega)]
 rfl
theorem QL (Z:c7 N q) {eF:Nat->Bool} {R:I->aL} (bG:cu<100) (cC:∀w v,(R w).put "k" v=R v)
  (bY:∀G j y,1<=j->j<=cu->kh (x::q) (R (bZ j)) ⟨aF N G B,y⟩=some (eF j,⟨aF N G B,y⟩)) (cK:∀G j y,1<=j->j<=cu->ek (x::q) (R (bZ j)) ⟨aF N G B,y⟩=some (bZ (g j),⟨aF N G B,y⟩)):
  jZ q kh ek "k" (.eo 1 (cu+1:Nat)) (R .undef) ⟨aF N G B,x⟩=some (.ref (0::x::q),⟨aF N (G.set (0::x::q) (.list ((((List.range' 1 cu).filter eF).map g).map bZ))) B,x+1⟩):=by
 refine(Cy (af:=λG=>aF N G B) cC (LN 1 (cu+1) (by decide) (fV (EG bG) (by decide)) _) (λo j y=>VN (tG cu 1) j) (λo j y h=>bY _ j y (List.mem_range'_1.mp h).1 (z3 (EZ (List.mem_range'_1.mp h).2 (tG 1 cu)))) (λo j y h U=>⟨y,cK _ j y (List.mem_range'_1.mp h).1 (z3 (EZ (List.mem_range'_1.mp h).2 (tG 1 cu)))⟩) (λG o=>ue (Z.sub x)) (by rw[se];exact fV bG (by decide)) .undef).trans ?_
 rw[rF];rfl
noncomputable abbrev WW (t:T) (b:Bool) (j:Nat):I:=.tup [.int (d9 b (t.cF.getD j (0,0))),.int j]
theorem law_fin (F:B.t.cG m) (cO:B.t.lZ) (b:Bool) (bD:f<m) (aI:l<m) (aj:i<m) (row at_ sW X9 be) (x):
  Q.go ((Q.Ke (aJ (n+1)) (k::p) (.ref (N.f .own)) (.int (fP b)) (.int i) row at_ sW X9 be (WW B.t b f) (WW B.t b l) .undef .undef).cps Q.ret) ⟨aF N G B,x⟩=some (.int (Ay (d9 b (B.t.cF.getD i (0,0))) (B.t.jS b f) (B.t.jS b l)),aF N G B):=by
 have wh:=cO b i
 have kW:=cO b f
 have wj:=cO b l
 have s4:=λz=>vt (N:=N) (G:=G) (k:=z) (b:=b) (F.ak bD)
 have nl:=λz=>vt (N:=N) (G:=G) (k:=z) (b:=b) (F.ak aI)
 have gH:=λz=>zo (N:=N) (G:=G) (k:=z) (b:=b) (F.gH aj)
 show _=some (I.int (if d9 b (B.t.cF.getD i (0,0))<=d9 b (B.t.cF.getD f (0,0))then d9 b (B.t.cF.getD i (0,0))+d9 b (B.t.now.getD f (0,0)) -d9 b (B.t.cF.getD f (0,0))else if d9 b (B.t.cF.getD l (0,0))<=d9 b (B.t.cF.getD i (0,0))then d9 b (B.t.cF.getD i (0,0))+d9 b (B.t.now.getD l (0,0)) -d9 b (B.t.cF.getD l (0,0))else d9 b (B.t.now.getD f (0,0))+ic (d9 b (B.t.cF.getD i (0,0)) -d9 b (B.t.cF.getD f (0,0))) (d9 b (B.t.now.getD l (0,0)) -d9 b (B.t.now.getD f (0,0))) (d9 b (B.t.cF.getD l (0,0)) -d9 b (B.t.cF.getD f (0,0)))),_)
 by_cases fQ:d9 b (B.t.cF.getD i (0,0))<=d9 b (B.t.cF.getD f (0,0))
 .rw[bT fQ]
  exact Q.B vM<|Q.B (vq (F.gH aj) F.k_)<|Q.B (gH _)<|Q.B (v:=.int (d9 b (B.t.cF.getD f (0,0)))) rfl<|Q.B (Q.yZ fQ)<|Q.B lV<|Q.B (v:=.int (f:Nat)) rfl<|Q.B (qv (F.ak bD) F.dM)<|Q.B (s4 _)<|Q.B (v:=.int (d9 b (B.t.cF.getD f (0,0)))) rfl rfl
 .rw[bX fQ]
  by_cases iP:d9 b (B.t.cF.getD l (0,0))<=d9 b (B.t.cF.getD i (0,0))
  .rw[bT iP]
   exact Q.B vM<|Q.B (vq (F.gH aj) F.k_)<|Q.B (gH _)<|Q.B (v:=.int (d9 b (B.t.cF.getD f (0,0)))) rfl<|Q.B (Q.De fQ)<|Q.B (v:=.int (d9 b (B.t.cF.getD l (0,0)))) rfl<|Q.B (Q.pT iP)<|Q.B lV<|Q.B (v:=.int (l:Nat)) rfl<|Q.B (qv (F.ak aI) F.dM)<|Q.B (nl _)<|Q.B (v:=.int (d9 b (B.t.cF.getD l (0,0)))) rfl rfl
  .rw[bX iP,Uj]
   exact Q.B vM<|Q.B (vq (F.gH aj) F.k_)<|Q.B (gH _)<|Q.B (v:=.int (d9 b (B.t.cF.getD f (0,0)))) rfl<|Q.B (Q.De fQ)<|Q.B (v:=.int (d9 b (B.t.cF.getD l (0,0)))) rfl<|Q.B (Q.nV iP)<|Q.B lV<|Q.B (v:=.int (l:Nat)) rfl<|Q.B (qv (F.ak aI) F.dM)<|Q.B (nl _)<|Q.B lV<|Q.B (v:=.int (f:Nat)) rfl<|Q.B (qv (F.ak bD) F.dM)<|Q.B (s4 _)<|
    Q.B lV<|Q.B (v:=.int (f:Nat)) rfl<|Q.B (qv (F.ak bD) F.dM)<|Q.B (s4 _)<|Q.B (v:=.int (d9 b (B.t.cF.getD f (0,0)))) rfl<|Q.B (Q.o_ (sY (by omega) (by omega)))<|Q.B (v:=.int (d9 b (B.t.cF.getD l (0,0)))) rfl<|Q.B (v:=.int (d9 b (B.t.cF.getD f (0,0)))) rfl<|Q.B (SY _ (d9 b (B.t.cF.getD l (0,0)) -d9 b (B.t.cF.getD f (0,0))) (by omega) (by omega) (by omega)) rfl
end
section
variable {N:gg} {G bu:bl} {B bU:eT}
section
theorem P4 (mu:x<cu) (aE:j<=cu):aU q .Mod (aU q .Sub (H (.int (x:Nat))) (H (.int j))) (H (.int cu)) C=some (.int ((x+cu -j)%cu:Nat),C):=
 Fs (Fs rfl rfl rfl) rfl ((Q.n4 (Int.ofNat_ne_zero.mpr (zV (dg (lY x) mu)))).trans (by rw[adt x cu j aE mu]))
theorem RT (mu:x<cu):aU q .Mod (aU q .Add (H (.int (x:Nat))) (H (.int (j:Nat)))) (H (.int cu)) C=some (.int ((x+j)%cu:Nat),C):=
 Fs (Fs rfl rfl rfl) rfl ((Q.n4 (Int.ofNat_ne_zero.mpr (zV (dg (lY x) mu)))).trans (by rw[adu x cu j]))
theorem Ii (k7:B.rows[c]?=some (List.range' a cu)) (ql:cu<100) (hz:z<cu):item (.ref (N.f (.gF c))) (.int z) ⟨aF N G B,y⟩=some (.int (a+z:Nat),⟨aF N G B,y⟩):=by
 rw[alI k7 (by rw[se];exact hz) (by rw[se];exact ql),alq _ _ _ hz]
theorem Wy (F:B.t.cG m) (hz:z<m) (cK:e ⟨aF N G B,y⟩=some (.int z,⟨aF N G B,y⟩)):Y (aV (aV (aV (H (.ref (N.f .own))) (ns "touched")) e) (H (.int (fP b)))) truth ⟨aF N G B,y⟩=some (B.t.flag b z,⟨aF N G B,y⟩):=
 h9 (pW (pW (pW rfl rfl IW) cK (HY (F.k9 hz) F.Iz)) rfl (MU (F.k9 hz) b)) rfl
theorem abT (Z:c7 N q) (F:B.t.cG m) (k7:B.rows[c]?=some (List.range' a cu)) (bM:a+cu<=m) (ql:cu<100) (mu:x<cu):
  jZ q (λq J=>gv (aJ n) 95 Ao q J (ee yk 2)) (λq J=>eK (aJ n) 95 Ao q J (ee yk 0)) "k" (.eo 1 (cu+1:Nat)) (DJ .undef (.int (x:Nat)) (.int (fP b)) (.int cu) (.ref (N.f .own)) (.ref (N.f (.gF c)))) ⟨aF N G B,y⟩=some (.ref (0::y::q),⟨aF N (G.set (0::y::q) (.list ((nQ (B.t.flag b) a cu x).map bZ))) B,y+1⟩):=
 have lt:=λj=>EM (x+cu -j) (dg (lY x) mu)
 QL Z (R:=λv=>DJ v (.int (x:Nat)) (.int (fP b)) (.int (cu:Nat)) (.ref (N.f .own)) (.ref (N.f (.gF c)))) ql (λU U=>rfl)
  (λG j y az aE=>(eZ (abv ..) _).trans (Wy F (lW (rB (lt j) a) bM) (pW rfl (P4 mu aE) (Ii k7 ql (lt j)))))
  (λG j y az aE=>(eZ (aaX ..) _).trans (pW rfl (P4 mu aE) (Ii k7 ql (lt j))))
theorem abU (Z:c7 N q) (F:B.t.cG m) (k7:B.rows[c]?=some (List.range' a cu)) (bM:a+cu<=m) (ql:cu<100) (mu:x<cu):
  jZ q (λq J=>gv (aJ n) 94 Aq q J (ee yl 2)) (λq J=>eK (aJ n) 94 Aq q J (ee yl 0)) "k" (.eo 1 (cu+1:Nat)) (DK .undef (.int (x:Nat)) (.int (fP b)) (.int cu) (.ref (N.f .own)) (.ref (N.f (.gF c)))) ⟨aF N G B,y⟩=some (.ref (0::y::q),⟨aF N (G.set (0::y::q) (.list ((nU (B.t.flag b) a cu x).map bZ))) B,y+1⟩):=
 have lt:=λj=>EM (x+j) (dg (lY x) mu)
 QL Z (R:=λv=>DK v (.int (x:Nat)) (.int (fP b)) (.int (cu:Nat)) (.ref (N.f .own)) (.ref (N.f (.gF c)))) ql (λU U=>rfl)
  (λG j y az aE=>(eZ (abw ..) _).trans (Wy F (lW (rB (lt j) a) bM) (pW rfl (RT mu) (Ii k7 ql (lt j)))))
  (λG j y az aE=>(eZ (aaY ..) _).trans (pW rfl (RT mu) (Ii k7 ql (lt j))))
theorem adm (h:D≠[]):((D.map bZ)[0]?)=some (.int (D.getD 0 0)):=match D,h with
 |[],h=>absurd rfl h
 |_::_,_=>rfl
theorem Sf (Z:c7 N q) (h:D≠[]):item (.ref (0::u::q)) (.int 0) ⟨aF N (G.set (0::u::q) (.list (D.map bZ))) B,y⟩=some (.int (D.getD 0 0),⟨aF N (G.set (0::u::q) (.list (D.map bZ))) B,y⟩):=
 jz ((kE (gN (Z.sub u) 0)).trans cP) (adm h) (by decide)
end
theorem aae (mu:x<cu) (bM:a+cu<=m) (h:nQ f a cu x≠[]):(nQ f a cu x).getD 0 0<m:=by
 have g:(nQ f a cu x).getD 0 0∈nQ f a cu x:=match nQ f a cu x,h with
  |[],h=>absurd rfl h
  |_::_,_=>jH
 exact(List.mem_map.mp g).elim λy z=>z.2▸lW (rB (EM _ (dg (lY x) mu)) a) bM
theorem adM (mu:x<cu) (bM:a+cu<=m) (h:nU f a cu x≠[]):(nU f a cu x).getD 0 0<m:=by
 have g:(nU f a cu x).getD 0 0∈nU f a cu x:=match nU f a cu x,h with
  |[],h=>absurd rfl h
  |_::_,_=>jH
 exact(List.mem_map.mp g).elim λy z=>z.2▸lW (rB (EM _ (dg (lY x) mu)) a) bM
theorem ajt (Z:c7 N (k::p)) (F:B.t.cG m) (sL:B.t.lZ) (b) (k7:B.rows[c]?=some (List.range' a cu)) (bM:a+cu<=m) (Lo:a<=i) (iR:i<a+cu)
  (pe:nQ (B.t.flag b) a cu (i -a)≠[]) (s4:nU (B.t.flag b) a cu (i -a)≠[]):
  aJ (n+2) p 1356 [.ref (N.f .own),.int (fP b),.int i,.ref (N.f (.gF c))] ⟨aF N G B,k⟩=some (.int (B.t.m6 b (i,(nQ (B.t.flag b) a cu (i -a)).getD 0 0,(nU (B.t.flag b) a cu (i -a)).getD 0 0)),⟨aF N G B,k+1⟩):=by
 have mu:=Nat.sub_lt_left_of_lt_add Lo iR
 have ql:cu<100:=dg (d5 (uD cu a) (d5 bM F.ia)) (by decide)
 have aI:(List.range' a cu).length<100:=dg (ng se) ql
 have rT:i<m:=lW iR bM
 have jh:=aae mu bM pe
 have Gx:=adM mu bM s4
 have afu:∀G y,builtin (k::p) "list.index" [.ref (N.f (.gF c)),.int i] ⟨aF N G B,y⟩=some (.int (i -a:Nat),⟨aF N G B,y⟩):=λG y=>(alH k7 aI (List.mem_range'_1.mpr ⟨Lo,iR⟩) _).trans (by rw[ae8 a cu i Lo iR])
 have n3:∀G y,builtin (k::p) "len" [.ref (N.f (.gF c))] ⟨aF N G B,y⟩=some (.int cu,⟨aF N G B,y⟩):=λG y=>(alJ k7 aI _).trans (by rw[se])
 have zv:∀C,jk (k::p) "range" [.int 1,.int (cu+1:Int)] C=some (.eo 1 (cu+1:Nat),C):=λC=>Ie (k::p) 1 (cu+1) (by decide) (fV (EG ql) (by decide)) C
 have off:∀lA kR,jt (k::p) G ((G.set (0::0::k::p) lA).set (0::1::k::p) kR)=G:=λlA kR=>DR (((dz.refl _ _).set ⟨[0,0],rfl⟩ _).set ⟨[0,1],rfl⟩ _)
 refine(Ak (bu:=(G.set (0::0::k::p) (.list ((nQ (B.t.flag b) a cu (i -a)).map bZ))).set (0::1::k::p) (.list ((nU (B.t.flag b) a cu (i -a)).map bZ))) Z rfl (Q.Y4 (aJ (n+1)) (k::p) (.ref (N.f .own)) (.int (fP b)) (.int i) (.ref (N.f (.gF c)))) ?_).trans (by rw[off])
 refine(Q.B (alK k7)<|Q.B (Q.iy (afu _ _))<|Q.B (Q.iy (n3 _ _))<|Q.B (Q.fR (zv _))<|Q.B (abT Z F k7 bM ql mu)<|Q.B (Sf Z pe)<|Q.B (Q.fR (zv _))<|Q.B (abU Z F k7 bM ql mu)<|Q.B (Sf Z s4)<|
  Q.B vM<|Q.B (vq (F.gH jh) F.k_)<|Q.B (zo (F.gH jh))<|Q.B vM<|Q.B (vq (F.gH Gx) F.k_)<|Q.B (zo (F.gH Gx))<|Q.B rfl<|Q.B rfl<|?_)
 unfold T.m6 T.lo T.aj
 by_cases aN:(B.t.jS b ((nU (B.t.flag b) a cu (i -a)).getD 0 0)).1<(B.t.jS b ((nQ (B.t.flag b) a cu (i -a)).getD 0 0)).1
 .rw[bT aN,bT aN]
  exact Q.B (Q.wQ aN)<|law_fin F sL b Gx jh rT .none .none .none .none .none _
 .rw[bX aN,bX aN]
  exact Q.B (Q.uZ aN)<|law_fin F sL b jh Gx rT .none .none .none .none .none _
end
theorem K6 {body:aL->(aL->aD I)->aD I} {K:aL->aD I} {aa:List I} {aS:Nat->aL->bL->Prop}
  (bG:∀i J C,aS i J C->g8 it i C=some (aa[i]?,C))
  (aR:∀i (h:i<aa.length) J C au,aS i J C->∃cz aT,gr aa[i] J (λJ=>body J au) C=au cz aT/\aS (i+1) cz aT):
  ∀d dY i J C,aS i J C->i+d=aa.length->d<dY->∃cz aT,gP body gr it K dY i J C=K cz aT/\aS aa.length cz aT:=
 Q.gen bG aR
theorem Q5 (bD:∀i:Int,f (.int i)=some (.int i)):∀l:List Nat,fH.kX f (l.map bZ)=some (l.map λi=>PyData.int (i:Nat))
 |[]=>rfl
 |i::l=>by
  rw[nN,nN,fH.kX,Q5 bD l]
  rw[bD]
section
variable {N:gg} {G bu:bl} {B bU:eT}
theorem ajl {r s:ay} {l:List Nat} (aQ:C.h r=some (.list (l.map bZ))) (aR:C.h s=some (.list [])):dX .NotEq (.ref r) (.ref s) C=some (!l.isEmpty,C):=by
 show Y (tD (.ref r) (.ref s)) _ C=_
 have bk:fH 3 C.h (.ref r)=some (.list (l.map λi=>PyData.int (i:Nat))):=by
  show(match C.h r with|some (.list aa)=>(fH.kX (fH 2 C.h) aa).map PyData.list|_=>none)=_
  rw[aQ];dsimp only;rw[Q5 λU=>rfl];rfl
 have bK:fH 3 C.h (.ref s)=some (.list []):=by
  show(match C.h s with|some (.list aa)=>(fH.kX (fH 2 C.h) aa).map PyData.list|_=>none)=_
  rw[aR];rfl
 simp only[Y,tD,bk,bK,ai]
 rcases l with _|_<;>rfl
theorem QH (Z:c7 N q) (k7:B.rows[c]?=some row) (aI:row.length<100) {eF:Nat->Bool} {R:I->aL} (cC:∀w v,(R w).put "i" v=R v) (g)
  (bY:∀G j y,j∈row->kh (x::q) (R (bZ j)) ⟨aF N G B,y⟩=some (eF j,⟨aF N G B,y⟩)) (cK:∀G j y,j∈row->eF j=true->∃lU,ek (x::q) (R (bZ j)) ⟨aF N G B,y⟩=some (g j,⟨aF N G B,lU⟩)):
  jZ q kh ek "i" (.ref (N.f (.gF c))) (R .undef) ⟨aF N G B,x⟩=some (.ref (0::x::q),⟨aF N (G.set (0::x::q) (.list ((row.filter eF).map g))) B,x+1⟩):=
 Cy (af:=λG=>aF N G B) cC (LJ (Bv k7)) (λo j y=>Dy (Bv k7) j) (λo j y h=>bY _ j y h) (λo j y h bD=>cK _ j y h bD) (λG o=>ue (Z.sub x)) (fV aI (by decide)) .undef
end
section
variable {N:gg} {G bu:bl} {B bU:eT}
noncomputable def vz (N:gg) (b:Bool) (r i d x:I):aL:=[("own",.ref (N.f .own)),("axis",.int (fP b)),("row",r),("i",i),("due",d),("number",x)]
noncomputable def yx (x:Nat×Int):I:=.tup [.int x.1,.int x.2]
noncomputable def eT.ajm (af:eT) (jr:List (Int×Int)):eT:={af with t:={af.t with now:=jr}}
theorem TA (Z:c7 N q):iK q [] ⟨aF N G B,k⟩=some (.ref (k::q),⟨aF N (G.set (k::q) (.list [])) B,k+1⟩):=gV Z
theorem alj (b) (b4:List (Nat×Int)) (n) (j) (h:j<b4.length):lE b (b4.take (j+1)) n=(lE b (b4.take j) n).set b4[j].1 (up b ((lE b (b4.take j) n).getD b4[j].1 (0,0)) b4[j].2):=by
 rw[EE,h7 h,M5];rfl
inductive Jv (N:gg) (G:bl) (B:eT) (b:Bool) (b4:List (Nat×Int)) (row d) (x j):aL->bL->Prop
 |mk (qn Ot):Jv N G B b b4 row d x j (vz N b row qn d Ot) ⟨aF N G (B.ajm (lE b (b4.take j) B.t.now)),x⟩
theorem abZ {j0:Nat} (b:Bool) {r:ay} {b4:List (Nat×Int)} (fc:N.g r=none) (cO:G r=some (.list (b4.map yx))) (aI:b4.length<100) (F:B.t.cG m) (k6:∀x∈b4,x.1<m) (row fS oS X) (au) (x):
  ∃cz aT,gP (λJ k=>c5 (aJ (n+1)) 93 (aA 185).sc (j0::p) L5 J k) (λv J k=>asg (aJ (n+1)) 93 (aA 185).sc (j0::p) 3 Hp v J k) (.ref r) (Dk (aJ (n+1)) (j0::p) au) 1000 0 (vz N b row fS oS X) ⟨aF N G B,x⟩=
   Dk (aJ (n+1)) (j0::p) au cz aT/\Jv N G B b b4 row oS x (b4.map yx).length cz aT:=
 have bK:∀l,(lE b l B.t.now).length=m:=λl=>(M7 b l _).trans F.now
 K6
  (λj J C h=>h.rec λU U=>HO fc cO j x)
  (λj h J C apC dJ=>dJ.rec λu v=>
   have aW:=EZ h (fD yx)
   have mS:=EZ (k6 b4[j] (sf aW)) (bK _).symm
   ⟨_,_,(cJ (λw=>asg (aJ (n+1)) 93 (aA 185).sc (j0::p) 3 Hp w (vz N b row u oS v) _ _) (List.getElem_map yx)).trans ((eZ (ahC ..) _).trans (Q.iF (Q.agG ..)<|Q.bx lV<|Q.bx (qv mS (d5 (ng (bK _)) (d5 F.ia (by decide))))<|Q.bx (Q.gy (U4 mS b _))<|Q.fin)),by
    have aS:=Jv.mk (N:=N) (G:=G) (B:=B) (b:=b) (b4:=b4) (row:=row) (d:=oS) (x:=x) (j:=j+1) (.int (b4[j].1:Nat)) (.int b4[j].2)
    rw[alj b b4 _ j aW]at aS
    exact aS⟩)
  b4.length 1000 0 (vz N b row fS oS X) ⟨aF N G B,x⟩ (.mk fS X) ((mH _).trans (fD yx).symm) (fV aI (by decide))
inductive XO (N:gg) (G:bl) (B:eT) q (b:Bool) c (t:T) (au:aL->aD I) (r:Option (I×bL)):Prop
 |mk (i d x) (bu:bl) y (e:r=au (vz N b (.ref (N.f (.gF c))) i d x) ⟨aF N bu {B with t:=t},y⟩) (o:dz q G bu)
section
theorem akn (Z:c7 N q) (F:B.t.cG m) (k7:B.rows[c]?=some (List.range' a cu)) (aI:(List.range' a cu).length<100) (inr:∀j,j∈List.range' a cu->j<m):
  jZ q (λq J=>gv (aJ n) 94 Ar q J (ee ym 2)) (λq J=>eK (aJ n) 94 Ar q J (ee ym 0)) "i" (.ref (N.f (.gF c))) (DL .undef (.int (fP b)) (.ref (N.f .own))) ⟨aF N G B,x⟩=some (.ref (0::x::q),⟨aF N (G.set (0::x::q) (.list (((List.range' a cu).filter (B.t.flag b)).map bZ))) B,x+1⟩):=
 QH Z k7 aI (R:=λv=>DL v (.int (fP b)) (.ref (N.f .own))) (λU U=>rfl) bZ
  (λG j y h=>(eZ (abx ..) _).trans (h9 (pW (pW (pW rfl rfl IW) rfl (HY (F.k9 (inr j h)) F.Iz)) rfl (MU (F.k9 (inr j h)) b)) rfl))
  λG j y h U=>⟨y,eZ (aaZ ..) _⟩
theorem ako (Z:c7 N q) (F:B.t.cG m) (sL:B.t.lZ) (k7:B.rows[c]?=some (List.range' a cu)) (bM:a+cu<=m) (aI:(List.range' a cu).length<100) (inr:∀j,j∈List.range' a cu->a<=j/\j<a+cu) (ne:∀x∈r7 (B.t.flag b) a cu,nQ (B.t.flag b) a cu (x.1 -a)≠[]/\nU (B.t.flag b) a cu (x.1 -a)≠[]):
  jZ q (λq J=>gv (aJ (n+2)) 93 wB q J (ee uS 2)) (λq J=>eK (aJ (n+2)) 93 wB q J (ee uS 0)) "i" (.ref (N.f (.gF c))) (DM .undef (.int (fP b)) (.ref (N.f .own)) (.ref (N.f (.gF c)))) ⟨aF N G B,x⟩=some (.ref (0::x::q),⟨aF N (G.set (0::x::q) (.list (((r7 (B.t.flag b) a cu).map λx=>(x.1,B.t.m6 b x)).map yx))) B,x+1⟩):=by
 have lt:∀j,j∈List.range' a cu->j<m:=λj h=>lW (inr j h).2 bM
 have fQ:=QH (G:=G) Z k7 aI (R:=λv=>DM v (.int (fP b)) (.ref (N.f .own)) (.ref (N.f (.gF c)))) (kh:=λq J=>gv (aJ (n+2)) 93 wB q J (ee uS 2)) (ek:=λq J=>eK (aJ (n+2)) 93 wB q J (ee uS 0)) (λU U=>rfl) (λj=>yx (j,B.t.m6 b (j,(nQ (B.t.flag b) a cu (j -a)).getD 0 0,(nU (B.t.flag b) a cu (j -a)).getD 0 0)))
  (λG j y h=>(eZ (aby ..) _).trans (h9 (h9 (pW (pW (pW rfl rfl IW) rfl (HY (F.k9 (lt j h)) F.Iz)) rfl (MU (F.k9 (lt j h)) b)) rfl) rfl))
  λG j y h bD=>⟨y+1,Q.iF (Q.aa0 ..) (Q.bx (ajt ((Z.sub x).sub y) F sL b k7 bM (inr j h).1 (inr j h).2 (ne (j,(nQ (B.t.flag b) a cu (j -a)).getD 0 0,(nU (B.t.flag b) a cu (j -a)).getD 0 0) (List.mem_map.mpr ⟨j,List.mem_filter.mpr ⟨h,bD⟩,rfl⟩)).1 (ne (j,(nQ (B.t.flag b) a cu (j -a)).getD 0 0,(nU (B.t.flag b) a cu (j -a)).getD 0 0) (List.mem_map.mpr ⟨j,List.mem_filter.mpr ⟨h,bD⟩,rfl⟩)).2) rfl)⟩
 unfold r7
 rw[rF,rF]
 exact fQ
theorem aks (Z:c7 N q) (y) (l:List Nat):Q.dK (dX .NotEq (.ref (0::x::q)) (.ref ((x+1)::q))) ⟨aF N ((G.set (0::x::q) (.list (l.map bZ))).set ((x+1)::q) (.list [])) B,y⟩=some (.bool (!l.isEmpty),⟨aF N ((G.set (0::x::q) (.list (l.map bZ))).set ((x+1)::q) (.list [])) B,y⟩):=
 Q.iC (ajl ((kE (gN (Z.sub x) 0)).trans ((dP (λz=>by cases z)).trans cP)) ((kE (gN Z _)).trans cP))
theorem akt (Z:c7 N (k::p)) (F:B.t.cG m) (sL:B.t.lZ) (b:Bool) {a cu c:Nat} (k7:B.rows[c]?=some (List.range' a cu)) (aQ:(a,cu)∈Bw) (bM:a+cu<=m) (fS oS X:I) (au:aL->aD I) (x):
  XO N G B (k::p) b c (B.t.qj b a (a+cu -1)) au (c5 (aJ (n+2)) 98 (aA 185).sc (k::p) t9 (vz N b (.ref (N.f (.gF c))) fS oS X) au ⟨aF N G B,x⟩):=by
 have DC:=akp F b aQ
 have aI:(List.range' a cu).length<100:=dg (d5 (ng se) (d5 (uD cu a) (d5 bM F.ia))) (by decide)
 have inr:∀j,j∈List.range' a cu->a<=j/\j<a+cu:=λj h=>List.mem_range'_1.mp h
 have P9:=akn (n:=n+2) (G:=G) (x:=x) (b:=b) Z F k7 aI λj h=>lW (inr j h).2 bM
 have HB:=aks (G:=G) (B:=B) (x:=x) Z (x+1+1) ((List.range' a cu).filter (B.t.flag b))
 have O:dz (k::p) G ((G.set (0::x::k::p) (.list (((List.range' a cu).filter (B.t.flag b)).map bZ))).set ((x+1)::k::p) (.list [])):=((dz.refl _ _).set ⟨[0,x],rfl⟩ _).set ⟨[x+1],rfl⟩ _
 rw[<-DC.1]
 unfold T.own
 by_cases cj:(List.range' a cu).filter (B.t.flag b)=[]
 .rw[bT cj]
  exact .mk fS oS X _ (x+1+1) (Q.iF (Q.Tg ..)<|Q.bx P9<|Q.bx (TA Z)<|Q.bx (HB.trans (cJ (λl:List Nat=>some (I.bool (!l.isEmpty),_)) cj))<|Q.fin) O
 .rw[bX cj]
  have ad4:∀x∈(r7 (B.t.flag b) a cu).map (λx=>(x.1,B.t.m6 b x)),x.1<m:=λx bE=>(List.mem_map.mp bE).elim λy cM=>(List.mem_map.mp cM.1).elim λj aW=>by
   rw[<-cM.2,<-aW.2]
   exact lW (inr j (List.mem_filter.mp aW.1).1).2 bM
  have ad3:((r7 (B.t.flag b) a cu).map (λx=>(x.1,B.t.m6 b x))).length<100:=by
   rw[fD]
   unfold r7
   rw[fD]
   exact dg (OL ..) aI
  refine(abZ (n:=n+1) (N:=N) (j0:=k) (p:=p) (B:=B) b (r:=0::(x+1+1)::k::p) (gN (q:=(x+1+1)::k::p) (Z.sub _) 0) (G:=((G.set (0::x::k::p) (.list (((List.range' a cu).filter (B.t.flag b)).map bZ))).set ((x+1)::k::p) (.list [])).set (0::(x+1+1)::k::p) _) cP ad3 F ad4 (.ref (N.f (.gF c))) fS (.ref (0::(x+1+1)::k::p)) X au (x+1+1+1)).elim λcz z=>z.elim λaT z=>?_
  refine z.2.rec (motive:=λcz aT U=>_=Dk _ _ au cz aT->_) (λqn Ot nG=>?_) z.1
  rw[fD,Jc]at nG
  exact .mk qn (.ref (0::(x+1+1)::k::p)) Ot _ (x+1+1+1) (Q.iF (Q.Tg ..)<|Q.bx P9<|Q.bx (TA Z)<|Q.bx (HB.trans (cJ (λt=>some (I.bool (!t),_)) (show((List.range' a cu).filter (B.t.flag b)).isEmpty=false from Bool.eq_false_iff.mpr λz=>cj (List.isEmpty_iff.mp z))))<|Q.bx (ako (n:=n) Z F sL k7 bM aI inr (DC.2 cj))<|Q.fin.trans<|Q.nj (zk (gN (q:=(x+1+1)::k::p) (Z.sub _) 0) cP B _) (nG.trans (eZ (ahd ..) _))) (O.set ⟨[0,x+1+1],rfl⟩ _)
end
def sD (rows:List (List Nat)) (ao:List Nat) (m:Nat):Prop:=rows.length=ao.length/\ao.length<=7/\∀c,c<ao.length->∃a cu,rows[c]?=some (List.range' a cu)/\(a,cu)∈Bw/\a+cu<=m/\a=tS ao c/\a+cu -1=ao.getD c 0
noncomputable def yT (b:Bool) (ao:List Nat) (t:T) (c:Nat):T:=(List.range c).foldl (λt c=>t.qj b (tS ao c) (ao.getD c 0)) t
theorem SQ (b) (ao) (t) (c):yT b ao t (c+1)=(yT b ao t c).qj b (tS ao c) (ao.getD c 0):=by
 unfold yT
 rw[Jf,I9];rfl
theorem SP (F:t.cG m) (b) (ao) (c):(yT b ao t c).cG m/\(yT b ao t c).cF=t.cF:=by
 induction c with
 |zero=>exact⟨F,rfl⟩
 |succ c ih=>rw[SQ];exact⟨(F8 ih.1 b _ _).1,(F8 ih.1 b _ _).2.1.trans ih.2⟩
theorem Z6 {t f9:T} (h:f9.cF=t.cF) (cO:t.lZ):f9.lZ:=by unfold T.lZ;rw[h];exact cO
inductive JF (N:gg) (G:bl) (B:eT) q (b:Bool) ao c:aL->bL->Prop
 |mk (r i d x) (bu:bl) y (o:dz q G bu):JF N G B q b ao c (vz N b r i d x) ⟨aF N bu {B with t:=yT b ao B.t c},y⟩
theorem ajs (Z:c7 N (k::p)) (F:B.t.cG m) (sL:B.t.lZ) (b:Bool) (cC:sD B.rows ao m):
  aJ (n+3) p 1361 [.ref (N.f .own),.int (fP b)] ⟨aF N G B,k⟩=some (.none,⟨aF N G {B with t:=B.t.ji b ao},k+1⟩):=by
 have VP:∀bu t,aF N bu {B with t:=t} (N.f .rows)=some (.list (iE (λi=>N.f (.gF i)) B.rows.length)):=λbu t=>jB rfl
 have gD:(iE (λi=>N.f (.gF i)) B.rows.length).length=ao.length:=(fD ..).trans (List.length_range.trans cC.1)
 have nG:=K6 (K:=Dj (aJ (n+2)) (k::p))
  (aS:=JF N G B (k::p) b ao)
  (λc J C h=>h.rec λU U U U U U U=>Dy (VP _ _) c)
  (λc h J C au dJ=>dJ.rec λr fS oS X bu y f6=>(cC.2.2 c (gD▸h)).elim λa z=>z.elim λcu g=>
   (akt (n:=n) (B:={B with t:=yT b ao B.t c}) (p:=p) Z (SP F b ao c).1 (Z6 (SP F b ao c).2 sL) b g.1 g.2.1 g.2.2.1 fS oS X au y).rec λsO je ah rH lV z o=>
    ⟨_,_,by
     rw[show(iE (λi=>N.f (.gF i)) B.rows.length)[c]=.ref (N.f (.gF c)) by simp[iE]]
     refine(eZ (ahB (aJ (n+2)) (k::p) _ _ (.ref (N.f .own)) (.int (fP b)) r fS oS X) _).trans (z.trans ?_)
     rw[g.2.2.2.1,<-g.2.2.2.1,g.2.2.2.2,g.2.2.2.1,<-SQ],.mk (.ref (N.f (.gF c))) sO je ah rH lV λw eL=>(o w eL).trans (f6 w eL)⟩)
  ao.length 1000 0 (vz N b .undef .undef .undef .undef) ⟨aF N G B,0⟩ (.mk _ _ _ _ G 0 (dz.refl _ _)) ((mH _).trans gD.symm) (dg cC.2.1 (by decide))
 rw[gD]at nG
 refine nG.elim λJ z=>z.elim λC z=>?_
 have key:∀J C,JF N G B (k::p) b ao ao.length J C->gP (λJ au=>c5 (aJ (n+2)) 98 (aA 185).sc (k::p) t9 J au) (λv J au=>asg (aJ (n+2)) 98 (aA 185).sc (k::p) 3 Mu v J au) (.ref (N.f .rows)) (Dj (aJ (n+2)) (k::p)) 1000 0 (vz N b .undef .undef .undef .undef) ⟨aF N G B,0⟩=Dj (aJ (n+2)) (k::p) J C->aJ (n+3) p 1361 [.ref (N.f .own),.int (fP b)] ⟨aF N G B,k⟩=some (.none,⟨aF N G {B with t:=B.t.ji b ao},k+1⟩):=λJ C aS=>aS.rec λr i d x bu y f6 e=>by
  refine(Q.uT (v:=.none) (h:=aF N G B) (az:=aF N bu {B with t:=B.t.ji b ao}) rfl (Q.Y5 (aJ (n+2)) (k::p) (.ref (N.f .own)) (.int (fP b))) ?_).trans ?_
  .exact Q.B aoO<|Q.B (Q.nj (LJ (VP G B.t)) (e.trans (eZ (Q.ahc ..) _))) rfl
  .rw[VC Z,DR f6]
 exact key J C z.2 z.1
theorem aiw (Z:c7 N (k::p)) (cC:gS N G B) (aW:∀j,k<=j->¬(j::p)<:+B.eE) (O:B.t.Ok m) (aj:i<m) (nA:sD B.rows ao m):lI N p k m ao B (aJ (n+5) p 1380 [.ref (N.f .src),.ref (N.f .own),.int 12,.int i] ⟨aF N G B,k⟩):=
 zm Z aW O.fit λc a b aN=>(ur (Z.sub _) (gm:=2) (by decide) (by decide) a b).elim λg z=>z.elim λiW z=>z.elim λkW z=>by
  have iX:=Int.ofNat_lt.mp z.2
  have it:=λf=>GU (!f) ao O.fit
  have bG:=aW k (fu _)
  have T:=z.1
  have Q0:=λf:Bool=>ajs (n:=n+1) (G:=G) (B:=B.src iW kW) (p:=k::p) (k:=2) (ao:=ao) (Z.sub _) O.fit O.bd (!f) nA
  induction g with
  |zero=>
   exact aM (Q.eN (by decide))<|aM (Q.eN (by decide))<|aM (Q.eN (by decide))<|aM (Q.eqT rfl)<|aM T<|aM (Q0 false)<|aM (gV Z)<|aM (Q.fR (pP Z 48 _ _ (by decide) _ _))<|
    rP (ins:=.ji false) rfl cC bG rfl trivial rfl rfl rfl ((dz.refl _ _).set ⟨[3],rfl⟩ _) ⟨(it false).2.2.2.2.1,(it false).2.2.2.2.2.1,(it false).2.2.2.2.2.2⟩
  |succ g=>
   induction g with
   |zero=>
    exact aM (Q.eN (by decide))<|aM (Q.eN (by decide))<|aM (Q.eN (by decide))<|aM (Q.eqT rfl)<|aM T<|aM (Q0 true)<|aM (gV Z)<|aM (Q.fR (pP Z 49 _ _ (by decide) _ _))<|
     rP (ins:=.ji true) rfl cC bG rfl trivial rfl rfl rfl ((dz.refl _ _).set ⟨[3],rfl⟩ _) ⟨(it true).2.2.2.2.1,(it true).2.2.2.2.2.1,(it true).2.2.2.2.2.2⟩
   |succ g=>exact absurd iX (Nat.not_lt.mpr (uD 2 g))
end
noncomputable def rt (ao:List Nat):T->List fT->T
 |t,[]=>t
 |t,i::l=>rt ao (i.apply ao t) l
noncomputable def kM (ao:List Nat):T->List fT->List Nat
 |_,[]=>[]
 |t,i::l=>i.enc t++kM ao (i.apply ao t) l
theorem ND (ao):∀l fX t,rt ao t (l++fX)=rt ao (rt ao t l) fX
 |[],_,_=>rfl
 |i::l,fX,t=>ND ao l fX _
theorem KS (ao):∀l fX t,kM ao t (l++fX)=kM ao t l++kM ao (rt ao t l) fX
 |[],_,_=>rfl
 |i::l,fX,t=>by rw[List.cons_append,kM,KS ao l fX,kM,rt,nM]
section
variable {N:gg} {G bu:bl} {B bU:eT}
theorem Px (ao) (h:t.Ok m) (ins:fT) (v:ins.Valid m):(ins.apply ao t).told.length<=t.told.length+1:=by
 have Gn:∀{f:T->Nat->T},(∀t i,(f t i).told=t.told)->∀(l:List Nat) (t:T),(l.foldl f t).told=t.told:=λbD l=>by
  induction l with
  |nil=>intro t;rfl
  |cons i l ih=>intro t;exact(ih _).trans (bD t i)
 induction ins with
 |rX i f=>exact jV _
 |qo i c f=>exact jV _
 |mU i g=>exact jV _
 |o9 i c g=>exact jV _
 |r5 i d f=>exact jV _
 |ye av=>have:=Gn (f:=T.l8) (λU U=>rfl) av.reverse t;simp only[fT.apply,this];omega
 |nX av=>have:=Gn (f:=T.nX (t.O t.dO -t.O t.cT) (t.P t.dO -t.P t.cT)) (λU U=>rfl) av.reverse t;simp only[fT.apply,this];omega
 |zG av f=>have:=λd=>Gn (f:=T.ly d) (λU U=>rfl) av.reverse t;simp only[fT.apply,this];omega
 |zH av d=>have:=λd=>Gn (f:=T.ly d) (λU U=>rfl) av.reverse t;simp only[fT.apply,this];omega
 |cL=>exact jV _
 |round c=>exact jV _
 |point j i=>simp only[fT.apply,T.point];split;exact jV _;split<;>exact jV _
 |ji f=>have:=(GU (!f) ao h.fit).2.2.1;simp only[fT.apply,this];omega
 |bf c v=>exact jV _
 |delta i a=>simp only[fT.apply,T.delta];split<;>exact jV _
 |q0 i f=>simp[fT.apply,T.dw]
 |ic j i=>simp[fT.apply,T.dw]
theorem Rj (m) (t) (ins:fT) (v:ins.Valid m):(ins.enc t).length<=70:=by
 have kF:=λa=>xr [a] (by simp)
 have i6:=λa b=>xr [a,b] (by simp)
 have ri:=λa b c=>xr [a,b,c] (by simp)
 have Hu:∀av nums o,tO av m->nums.length<=1->(q7 av nums o).length<=70:=λav nums o h bG=>by
  have:=xr (av.map cY++nums) (by have:=h.2.1;simp;omega)
  have:=kF av.length
  unfold q7
  split<;>simp only[gO,List.length_cons,List.length_nil]<;>omega
 induction ins with
 |ye av=>exact Hu av [] 60 v (by simp)
 |nX av=>exact Hu av [] 57 v (by simp)
 |zG av f=>exact Hu av [] _ v (by simp)
 |zH av d=>exact Hu av [d] 56 v.1 (by simp)
 |rX i f=>have:=kF (cY i);simp only[fT.enc,gO,List.length_cons,List.length_nil];omega
 |mU i f=>have:=kF (cY i);simp only[fT.enc,gO,List.length_cons,List.length_nil];omega
 |point j i=>have:=kF (cY i);simp only[fT.enc,gO,List.length_cons,List.length_nil];omega
 |q0 i f=>have:=kF (cY i);simp only[fT.enc,gO,List.length_cons,List.length_nil];omega
 |qo i c f=>have:=i6 (cY i) (cY c);simp only[fT.enc,gO,List.length_cons,List.length_nil];omega
 |o9 i c f=>have:=i6 (cY i) (cY c);simp only[fT.enc,gO,List.length_cons,List.length_nil];omega
 |r5 i c f=>have:=i6 (cY i) c;simp only[fT.enc,gO,List.length_cons,List.length_nil];omega
 |bf i c=>have:=i6 (cY i) c;simp only[fT.enc,gO,List.length_cons,List.length_nil];omega
 |ic i c=>have:=i6 (cY i) (cY c);simp only[fT.enc,gO,List.length_cons,List.length_nil];omega
 |delta i c=>have:=ri c (cY i) 1;simp only[fT.enc,gO,List.length_cons,List.length_nil];omega
 |cL=>simp[fT.enc]
 |round c=>simp[fT.enc]
 |ji f=>simp[fT.enc]
theorem NF (ao):∀(l:List fT) (t:T),t.Ok m->(∀x∈l,x.Valid m)->(rt ao t l).Ok m/\(rt ao t l).told.length<=t.told.length+l.length
 |[],t,h,_=>⟨h,fu _⟩
 |i::l,t,h,bJ=>by
  have v:=bJ i jH
  obtain⟨az,aE⟩:=NF ao l (i.apply ao t) (JS ao h i v) λx bE=>bJ x (i9 _ bE)
  have:=Px ao h i v
  refine⟨az,?_⟩
  simp only[rt,List.length_cons];omega
theorem KT (ao):∀l t,(∀x∈l,x.Valid m)->(kM ao t l).length<=70*l.length
 |[],t,_=>fu _
 |i::l,t,bJ=>by
  have:=Rj m t i (bJ i jH)
  have:=KT ao l (i.apply ao t) λx bE=>bJ x (i9 _ bE)
  simp only[kM,gO,List.length_cons];omega
theorem o8 {P:Nat->Prop} (a:∀w,w<n->P w) (b:P n):∀w,w<n+1->P w:=λw h=>(Nat.lt_succ_iff_lt_or_eq.mp h).elim (a w) λe=>e▸b
theorem ahx {P:Nat->Prop}:∀w,w<0->P w:=λw h=>absurd h (rD w)
theorem aiJ (Z:c7 N (k::p)) (cC:gS N G B) (aW:∀j,k<=j->¬(j::p)<:+B.eE) (O:B.t.Ok m) (aj:i<m):∀w,w<9->lI N p k m ao B (aJ (n+5) p 1373 [.ref (N.f .src),.ref (N.f .own),.int (w:Nat),.int i] ⟨aF N G B,k⟩):=
 o8 (o8 (o8 (o8 (o8 (o8 (o8 (o8 (o8 ahx (ais Z cC aW O aj)) (ait Z cC aW O aj)) (aiA Z cC aW O aj)) (aiB Z cC aW O aj)) (aiC Z cC aW O aj)) (aiD Z cC aW O aj)) (aiE Z cC aW O aj)) (aiF Z cC aW O aj)) (aiG (by decide) Z cC aW O aj)
theorem aiI (Z:c7 N (k::p)) (cC:gS N G B) (aW:∀j,k<=j->¬(j::p)<:+B.eE) (O:B.t.Ok m) (bY:B.t.told.length<=100) (aj:i<m) (nA:sD B.rows ao m):∀w,w<16->9<=w->lI N p k m ao B (aJ (n+5) p 1380 [.ref (N.f .src),.ref (N.f .own),.int (w:Nat),.int i] ⟨aF N G B,k⟩):=
 o8 (o8 (o8 (o8 (o8 (o8 (o8 (λw h bH=>absurd h (Nat.not_lt.mpr bH)) λU=>aiH Z cC aW O aj) λU=>aiu Z cC aW O aj) λU=>aiv Z cC aW O aj) λU=>aiw Z cC aW O aj nA) λU=>aix Z cC aW O aj) λU=>aiy Z cC aW O aj) λU=>aiz (by decide) bY Z cC aW O aj
end
section
variable {N:gg} {G bu:bl} {B bU:eT}
noncomputable def xw (N:gg) (oJ:I) (m:Nat) (av jd ends bf:I) (aH turn n_ i:I):aL:=[("script",oJ),("source",.ref (N.f .src)),("many",.int m),("points",av),("cut",jd),("ends",ends),("cvt",bf),("own",.ref (N.f .own)),("octets",aH),("turn",turn),("way",n_),("i",i),("work",.undef),("zone",.undef),("state",.undef)]
structure v_ (N:gg) p m ao (rows:List (List Nat)) (jD:T) x l (G:bl) (B:eT):Prop where
 tt:B.t=rt ao jD l
 valid:∀i∈l,i.Valid m
 r9:gS N G B
 yz:∀y,x<=y->¬(y::p)<:+B.eE
 rows:B.rows=rows
inductive Pe (N:gg) p m ao (rows:List (List Nat)) (jD:T) x l (oJ av jd ends bf turn) (au:aL->aD I) (r:Option (I×bL)):Prop
 |mk (w i) (ins:fT) (bu:bl) (bU:eT) (e:r=au (xw N oJ m av jd ends bf (.bytes (kM ao jD (l++[ins]))) turn w i) ⟨aF N bu bU,x+3⟩) (M:v_ N p m ao rows jD (x+3) (l++[ins]) bu bU)
theorem WJ {x:Nat} (M:v_ N p m ao rows jD x l G B) (aI:l.length<=20) {r D:Option (I×bL)} (w i) (g:lI N p (x+2) m ao (B.src a b) r)
  (c:∀bu bU aH,r=some (.bytes aH,⟨aF N bu bU,x+3⟩)->(kM ao jD l).length+aH.length<5000->D=au (xw N oJ m av jd ends bf (.bytes (kM ao jD l++aH)) turn w i) ⟨aF N bu bU,x+3⟩):Pe N p m ao rows jD x l oJ av jd ends bf turn au D:=
 g.rec λins bu bU e v bK gJ R f=>.mk w i ins bu bU (by
  have AA:kM ao jD (l++[ins])=kM ao jD l++ins.enc B.t:=by
   rw[KS,<-M.tt];exact cJ _ (vR _)
  rw[AA]
  have ao6:=KT ao l jD M.valid
  have ek:=Rj m B.t ins v
  exact c bu bU _ e (by omega)) ⟨by rw[ND,<-M.tt];exact bK,λy cM=>(List.mem_append.mp cM).elim (M.valid y) λcM=>List.mem_singleton.mp cM▸v,R,f,gJ.trans M.rows⟩
theorem aod (Z:∀y,x<=y->c7 N (y::p)) (nA:sD rows ao m) (O:jD.Ok m) (cj:jD.told=[]) (aI:l.length<=20) (M:v_ N p m ao rows jD x l G B) (oJ av jd ends bf turn zO fS) (au):
  Pe N p m ao rows jD x l oJ av jd ends bf turn au (c5 (aJ (n+5)) 88 (aA 189).sc p AZ (xw N oJ m av jd ends bf (.bytes (kM ao jD l)) turn zO fS) au ⟨aF N G B,x⟩):=
 have rm:=M.tt▸NF ao l jD O M.valid
 have told:=d5 (d5 rm.2 (ng (by rw[cj];exact mH _))) (d5 aI (by decide))
 (ur (Z x (fu _)) (by decide) (by decide) B.c9 B.tg).elim λw z=>z.elim λnt z=>z.elim λwh cR=>
 (ur (Z _ (jV x)) (Int.ofNat_lt.mpr (dg (lY _) rm.1.d4)) (Int.ofNat_lt.mpr (dg rm.1.fit.ia (by decide:7<100000))) nt wh).elim λi z=>z.elim λiW z=>z.elim λkW gC=>
 (Nat.lt_or_ge w 9).elim
  (λh=>WJ M aI (.int w) (.int i) (aiJ (B:=B.src iW kW) (Z _ (gQ x 2)) ⟨M.r9.at_,M.r9.g⟩ (λj aW=>M.yz j (d5 (gQ x 2) aW)) rm.1 (Int.ofNat_lt.mp gC.2) w h)
   λbu bU aH e c8=>Q.iF (Q.Th ..)<|Q.bx cR.1<|Q.bx gC.1<|Q.bx (Q.j_ (Int.ofNat_lt.mpr h))<|Q.bx e<|Q.bx (wo p _ _ c8 _)<|Q.fin)
  (λh=>WJ M aI (.int w) (.int i) (aiI (B:=B.src iW kW) (Z _ (gQ x 2)) ⟨M.r9.at_,M.r9.g⟩ (λj aW=>M.yz j (d5 (gQ x 2) aW)) rm.1 told (Int.ofNat_lt.mp gC.2) (show sD B.rows ao m from M.rows▸nA) w (Int.ofNat_lt.mp cR.2) h)
   λbu bU aH e c8=>Q.iF (Q.Th ..)<|Q.bx cR.1<|Q.bx gC.1<|Q.bx (Q.kQ (λz=>Nat.not_lt.mpr h (Int.ofNat_lt.mp z)))<|Q.bx e<|Q.bx (wo p _ _ c8 _)<|Q.fin)
inductive JN (N:gg) p m ao (rows:List (List Nat)) (jD:T) X (oJ av jd ends bf) j:aL->bL->Prop
 |mk (BG w i) l (bu:bl) (bU:eT) (aI:l.length=j) (M:v_ N p m ao rows jD (X+3*j) l bu bU):JN N p m ao rows jD X oJ av jd ends bf j (xw N oJ m av jd ends bf (.bytes (kM ao jD l)) BG w i) ⟨aF N bu bU,X+3*j⟩
theorem aoe (Z:∀y,X<=y->c7 N (y::p)) (nA:sD rows ao m) (O:jD.Ok m) (cj:jD.told=[]) (M:v_ N p m ao rows jD X [] G B) (oJ av jd ends bf turn zO fS) (K) (hd:d<=20):
  ∃J C,gP (λJ k=>c5 (aJ (n+5)) 88 (aA 189).sc p AZ J k) (λv J k=>asg (aJ (n+5)) 88 (aA 189).sc p 3 Dl v J k) (.eo 0 (d:Nat)) K 1000 0 (xw N oJ m av jd ends bf (.bytes []) turn zO fS) ⟨aF N G B,X⟩=K J C/\JN N p m ao rows jD X oJ av jd ends bf d J C:=
 have e:=(fD ..).trans uB
 (K6
  (λj J C h=>DU j)
  (λj h J C au dJ=>dJ.rec λBG w i l rH apG aI ad6=>
   (aod (λy cM=>Z y (d5 (gQ X _) cM)) nA O cj (aI▸d5 (sq (e▸h)) hd) ad6 oJ av jd ends bf ((List.range d).map bZ)[j] w i au).rec λig qn ins oh um gx iX=>
    ⟨_,_,(eZ (ahG ..) _).trans gx,.mk _ ig qn (l++[ins]) oh um (by rw[gO,aI];rfl) iX⟩)
  d 1000 0 (xw N oJ m av jd ends bf (.bytes []) turn zO fS) ⟨aF N G B,X⟩ (.mk turn zO fS [] G B rfl M) ((mH _).trans e.symm) (dg hd (by decide))).elim λJ z=>z.elim λC z=>⟨J,C,z.1,Eq.mp (cJ (λsH=>JN N p m ao rows jD X oJ av jd ends bf sH J C) e) z.2⟩
end
section
variable {N:fy}
theorem lJ.refl {G:bl} {B:fF} (M:lM N q aH ao m i t l c G B bq):lJ N n q aH ao m i t l c 0 ⟨aq N G B,bq⟩:=⟨G,B,bq,λU=>rfl,M⟩
theorem B7.then {aC R:List Nat} (h:∃d,d<=x/\lJ N n q aH ao m (i+aC.length) fC 1 (c+d) d s) (bH:∀d,d<=x->∀G B bq,lM N q aH ao m (i+aC.length) fC 1 (c+d) G B bq->∃e,e<=y/\lJ N n q aH ao m (i+aC.length+R.length) b6 1 (c+d+e) e ⟨aq N G B,bq⟩):∃d,d<=y+x/\lJ N n q aH ao m (i+(aC++R).length) b6 1 (c+d) d s:=
 h.elim λd g=>g.2.rec λG B bq pB M=>(bH d g.1 G B bq M).elim λe f5=>⟨d+e,tG y x▸mG g.1 f5.1,f5.2.rec λbu bU oC s2 oP=>⟨bu,bU,oC,pB.trans s2,by rw[gO,<-rE,<-rE];exact oP⟩⟩
theorem ac5 (fm:c4 N q) (bM:m<=7) (l):∀i c t G B bq,lM N q aH ao m i t 1 c G B bq->(∀x∈l,x.Valid m)->∀jT,aH.drop i=kM ao t l++jT->t.told.length+l.length<=20->c+4*l.length<=5000->
  ∃d,d<=4*l.length/\lJ N n q aH ao m (i+(kM ao t l).length) (rt ao t l) 1 (c+d) d ⟨aq N G B,bq⟩:=by
 induction l with
 |nil=>intro i c t G B bq M _ _ _ _ _;exact⟨0,fu _,lJ.refl M⟩
 |cons x l ih=>
  intro i c t G B bq M bJ jT c8 bY aN
  have v:=bJ x jH
  have R8:=c8.trans (nM ..)
  exact B7.then (ac6 fm M x v R8 (d5 (gQ ..) bY) (d5 (gQ ..) aN) bM) λd hd G B bq oP=>ih _ _ _ G B bq oP (λy cM=>bJ y (i9 _ cM)) jT (KQ R8)
   (d5 (EW (Px ao M.ok x v) _) (by rw[rE,tG 1];exact bY))
   (d5 (by rw[rE,tG d];exact uA (uA hd _) c) aN)
theorem alR (fm:c4 N (k::p)) (bM:m<=7) {G:bl} {B:fF} (c8:aH=kM ao t l) (M:lM N (k::p) aH ao m 0 t 1 0 G B 0) (bJ:∀x∈l,x.Valid m) (aI:t.told.length+l.length<=20):
  ∃s bu bU,aJ (n+10) p 248 [.ref (N.f .mT)] ⟨aq N G B,k⟩=some (.int s,⟨aq N bu bU,k+1⟩)/\bU.t=rt ao t l/\bU.ends=ao.map cY:=by
 refine iu λaH ez=>?_
 obtain⟨d,hd,bu,bU,bq,s,oP⟩:=ac5 fm bM l 0 0 t G B 0 M bJ [] (by rw[c8];simp) aI (by omega)
 have pB:=s (999 -d+1)
 refine ez ?_
 rw[show 999 -d+1+d=1000 by omega]at pB
 have A:=oP.at_
 rw[mH,<-c8]at A
 refine⟨bU.steps,bu,bU,?_,oP.tt,oP.ends⟩
 rw[agj (k::p) rfl,pB,aoA fm A]
end
noncomputable def gj (l m:List (Int×I)):List (Int×I):=m.foldl (λa q=>g9 a q.1 q.2) l
theorem M9 (l) (k:Int) (v):(g9 l k v).length<=l.length+1:=by
 induction l with
 |nil=>exact fu 1
 |cons q l ih=>
  show(if _ then _ else _:List (Int×I)).length<=_
  split
  .exact jV _
  .exact z4 ih
theorem MY (m:List (Int×I)):∀l:List (Int×I),(gj l m).length<=l.length+m.length:=by
 induction m with
 |nil=>exactλl=>fu _
 |cons q m ih=>exactλl=>d5 (ih (g9 l q.1 q.2)) (d5 (EW (M9 l q.1 q.2) _) (ng (EO ..)))
theorem Vc (l m n:List (Int×I)):gj l (m++n)=gj (gj l m) n:=I9
section
variable {h:bl}
theorem p_ {r:ay} (hz:l.length<1000):ju (.ref r) (.int c) v ⟨h.set r (.cB l),x⟩=some ((),⟨h.set r (.cB (gj l [(c,v)])),x⟩):=by
 rw[V1 cP hz,xy];rfl
theorem Oe {body:aL->(aL->aD I)->aD I} {K:aL->aD I} {iw:List Int} {R:I->aL} {r:ay}
  (bG:∀j C,g8 it j C=some ((iw.map I.int)[j]?,C)) (nC:∀v w au,gr v (R w) au=au (R v))
  (aP:∀c l au,l.length<500->body (R (.int c)) au ⟨h.set r (.cB l),x⟩=au (R (.int c)) ⟨h.set r (.cB (gj l (g c))),x⟩) (g5:∀c,(g c).length<=2) (l) (w) (aI:l.length+2*iw.length<400):
  ∃ig,gP body gr it K 1000 0 (R w) ⟨h.set r (.cB l),x⟩=K (R ig) ⟨h.set r (.cB (gj l (iw.flatMap g))),x⟩:=by
 have fin:∀(iw:List Int) l,iw.foldl (λl c=>gj l (g c)) l=gj l (iw.flatMap g):=λiw=>by
  induction iw with
  |nil=>exactλl=>rfl
  |cons c iw ih=>exactλl=>(ih _).trans ((Vc l (g c) (iw.flatMap g)).symm.trans (cJ (gj l) List.flatMap_cons.symm))
 have oR:∀{j},j<=iw.length->l.length+2*j<500:=λaW=>fV (dg (uA (OS 2 aW) _) aI) (by decide)
 have al7:iw.length<1000:=dg (d5 (Nat.le_mul_of_pos_left iw.length (by decide:0<2)) (uD ..)) (fV aI (by decide))
 refine(Q.Go (K:=K) (f:=λl c=>gj l (g c)) (c:=0) (λU U j=>bG j _) (λw U v au=>nC v w au)
  (λU z j U au aW hz=>⟨(),aP iw[j] z au (dg hz (oR (sq aW)))⟩) (λz j aW hz=>d5 (MY (g iw[j]) z) (d5 (mG hz (g5 iw[j])) (fu (l.length+2*j+2)))) iw.length l 0 w () 1000 0 (fu _) (mH _) al7).elim λig e=>e.elim λU e=>⟨ig,?_⟩
 rw[xR,fin]at e
 exact e
theorem vn (iw:List Int) (j) (C):g8 (.tup (iw.map I.int)) j C=some ((iw.map I.int)[j]?,C):=rfl
theorem HJ (a b) (j) (C):g8 (.eo (a:Nat) (b:Nat)) j C=some ((((List.range' a (b -a)).map cY).map I.int)[j]?,C):=by
 by_cases aW:a+j<b
 .rw[Nx a b j aW,jI,jI,OO (by omega)]
  simp[cY]
 .rw[DT a b j (by omega),sd (by simp;omega)]
noncomputable def v9:List (Int×I):=gj (gj (gj (gj (gj [(15,.at 466),(39,.at 473),(41,.at 480),(70,.at 438),(71,.at 438),(72,.at 445)] [(73,.at 452)]) [(74,.at 452)]) [(128,.at 487)]) [(129,.at 494)]) [(130,.at 494)]
theorem afC:aJ (n+1) p 501 [] ⟨h,k⟩=some (.ref (0::k::p),⟨h.set (0::k::p) (.cB v9),k+1⟩):=
 Q.qh rfl (Q.Zq (aJ n) (k::p))<|Q.B rfl<|Q.B (Q.gy (p_ (by decide)))<|Q.B (Q.gy (p_ (by decide)))<|Q.B (Q.gy (p_ (by decide)))<|Q.B (Q.gy (p_ (by decide)))<|Q.B (Q.gy (p_ (by decide)))<|rfl
noncomputable def ya:List (Int×I):=gj (gj (gj [(46,.at 585),(47,.at 585),(62,.at 592),(63,.at 592),(58,.at 627),(59,.at 627)] [(60,.at 634)]) [(57,.at 641)]) (((List.range' 192 32).map cY).flatMap λc=>[(c,.at 613),(c+32,.at 620)])
theorem ao8 (L) (q) (aa) (t):fz L q (.type t) aa=jk q t aa:=rfl
theorem afD:aJ (n+1) p 648 [] ⟨h,k⟩=some (.ref (0::k::p),⟨h.set (0::k::p) (.cB ya),k+1⟩):=
 (Oe
  (g:=λc=>[(c,.at 613),(c+32,.at 620)]) (λj C=>HJ 192 224 j C) (λv w au=>ahL ..)
  (λc l au aI=>by
   show _=au _ ⟨h.set (0::k::p) (.cB (gj l ([(c,.at 613)]++[(c+32,.at 620)]))),1⟩
   rw[Vc]
   exact Q.iF (Q.agO ..)<|Q.bx (Q.gy (p_ (fV aI (by decide))))<|Q.bx (Q.gy (p_ (dg (MY ..) (dg aI (by decide)))))<|Q.fin) (λc=>fu 2) (gj (gj [(46,.at 585),(47,.at 585),(62,.at 592),(63,.at 592),(58,.at 627),(59,.at 627)] [(60,.at 634)]) [(57,.at 641)]) .undef (by decide)).elim λw e=>
 Q.qh rfl (Q.ZE (aJ n) (k::p))<|Q.B rfl<|Q.B (Q.gy (p_ (by decide)))<|Q.B (Q.gy (p_ (by decide)))<|Q.B (Q.fR (Ie (k::p) 192 224 (by decide) (by decide) _))<|Q.B (Q.nj (LN 192 224 (by decide) (by decide) _) (e.trans (eZ (Q.ahm ..) _)))<|rfl
noncomputable def Fb:List (Int×I):=gj (gj (gj [(48,.at 938),(49,.at 938),(50,.at 856),(51,.at 856),(52,.at 877),(53,.at 877),(56,.at 891)] [(54,.at 884)]) [(55,.at 884)]) (([93,113,114]).flatMap λc=>[(c,.at 898)])
theorem afG:aJ (n+1) p 945 [] ⟨h,k⟩=some (.ref (0::k::p),⟨h.set (0::k::p) (.cB Fb),k+1⟩):=
 (Oe (iw:=[93,113,114])
  (R:=λw=>[(("found":Str),.ref (0::k::p)),(("code":Str),w)]) (λj C=>vn _ j C) (λv w au=>ahR ..)
  (λc l au aI=>Q.iF (Q.agT ..)<|Q.bx (Q.gy (p_ (fV aI (by decide))))<|Q.fin) (λc=>jV 1) (gj (gj [(48,.at 938),(49,.at 938),(50,.at 856),(51,.at 856),(52,.at 877),(53,.at 877),(56,.at 891)] [(54,.at 884)]) [(55,.at 884)]) .undef (by decide)).elim λw e=>
 Q.qh rfl (Q.ZT (aJ n) (k::p))<|Q.B rfl<|Q.B (Q.gy (p_ (by decide)))<|Q.B (Q.gy (p_ (by decide)))<|Q.B (Q.nj rfl (e.trans (eZ (Q.ahr ..) _)))<|rfl
end
section
variable {L:cy} {p:ay} {h:bl}
noncomputable def rL (L:cy) (p:ay) (a m j:Nat) (J:aL):aD I:=c5 L m (aA a).sc p ((aA a).body.drop j) J λU=>ai .none
noncomputable def Ck (L:cy) (p:ay) (a m j:Nat) (J:aL) (au:aL->aD I):aD I:=c5 L m (aA a).sc p (iG (c6 ((aA a).body.drop j))) J au
noncomputable def pL (L:cy) (p:ay) (a m j:Nat) (v:I) (J:aL) (au:aL->aD I):aD I:=asg L m (aA a).sc p 3 (fO (c6 ((aA a).body.drop j)) 0) v J au
noncomputable def ja (L:cy) (p:ay) (a m j:Nat) (J:aL):aD I:=eK L m (aA a).sc p J (fO (c6 ((aA a).body.drop j)) 1)
noncomputable def pc (l:List (Int×I)) (iw:List Int) (d:Addr):List (Int×I):=gj l (iw.flatMap λc=>[(c,.at d)])
theorem WH {a m j:Nat} {R:I->aL} {it w:I} {iw:List Int} {g:Int->List (Int×I)} {l T:List (Int×I)} {r:ay}
  (bM:rL L p a (m+2) j (R w)=Y (ja L p a m j (R w)) λt=>Y (jP t) λU=>gP (Ck L p a m j) (pL L p a m j) t (rL L p a (m+1) (j+1)) 1000 0 (R w))
  (cK:∀C,ja L p a m j (R w) C=some (it,C)) (aj:∀C,jP it C=some ((),C)) (bG:∀j C,g8 it j C=some ((iw.map I.int)[j]?,C)) (nC:∀v w au,pL L p a m j v (R w) au=au (R v))
  (aP:∀c l au,l.length<500->Ck L p a m j (R (.int c)) au ⟨h.set r (.cB l),x⟩=au (R (.int c)) ⟨h.set r (.cB (gj l (g c))),x⟩) (g5:∀c,(g c).length<=2) (aI:Nat.ble (l.length+2*iw.length+1) 400=true)
  (next:∀w,rL L p a (m+1) (j+1) (R w) ⟨h.set r (.cB (gj l (iw.flatMap g))),x⟩=some (.ref r,⟨h.set r (.cB T),x⟩)):
  rL L p a (m+2) j (R w) ⟨h.set r (.cB l),x⟩=some (.ref r,⟨h.set r (.cB T),x⟩):=
 (Oe bG nC aP g5 l w (lG aI)).elim λig e=>(eZ bM _).trans (h9 (cK _) (h9 (aj _) (e.trans (next ig))))
theorem uu (d:Addr) {a m j:Nat} {R:I->aL} {it w:I} {iw:List Int} {l T:List (Int×I)} {r:ay}
  (bG:∀j C,g8 it j C=some ((iw.map I.int)[j]?,C)) (aj:∀C,jP it C=some ((),C))
  (bM:rL L p a (m+2) j (R w)=Y (ja L p a m j (R w)) λt=>Y (jP t) λU=>gP (Ck L p a m j) (pL L p a m j) t (rL L p a (m+1) (j+1)) 1000 0 (R w))
  (cK:∀C,ja L p a m j (R w) C=some (it,C)) (nC:∀v w au,pL L p a m j v (R w) au=au (R v))
  (aP:∀c au,Ck L p a m j (R (.int c)) au=Y (ai (.at d)) λt=>Y (H (.ref r)) λf=>Y (H (.int c)) λk=>Y (ju f k t) λU=>au (R (.int c))) (aI:Nat.ble (l.length+2*iw.length+1) 400=true)
  (next:∀w,rL L p a (m+1) (j+1) (R w) ⟨h.set r (.cB (pc l iw d)),x⟩=some (.ref r,⟨h.set r (.cB T),x⟩)):
  rL L p a (m+2) j (R w) ⟨h.set r (.cB l),x⟩=some (.ref r,⟨h.set r (.cB T),x⟩):=
 WH bM cK aj bG nC (λc l au hz=>(eZ (aP c au) _).trans (h9 rfl<|h9 rfl<|h9 rfl<|h9 (p_ (fV hz (by decide))) rfl)) (λc=>jV 1) aI next
theorem WB {a i:Nat} {K:List Int} {aa:List I} {Xe:aL} {xU:I->aL} (bD:iA.lookup a=some (aA i)) (aP:uQ a (aA i) []=some []) (aR:(aA i).body=c6 (aA i).body::(aA i).body.tail)
  (jh:c6 (aA i).body=.Assign [fO (c6 (aA i).body) 1] (fO (c6 (aA i).body) 0) (alW (c6 (aA i).body))) (eL:vE (fO (c6 (aA i).body) 1) (fO (c6 (aA i).body) 0) (aA i).sc=some none)
  (bJ:qY (aA i).sc []=Xe) (aY:∀t,asg L 98 (aA i).sc p 3 (fO (c6 (aA i).body) 1) t Xe (λJ=>c5 L 99 (aA i).sc p (aA i).body.tail J λU=>ai .none)=rL L p i 99 1 (xU t))
  (je:fO (c6 (aA i).body) 0=.Dict (yt (fO (c6 (aA i).body) 0)) (wD (fO (c6 (aA i).body) 0)) (KM (fO (c6 (aA i).body) 0))) (tT:zI (yt (fO (c6 (aA i).body) 0))=none) (qi:yP (yt (fO (c6 (aA i).body) 0))=some K)
  (F1:decide K.Nodup=true) (Av:K.length=(wD (fO (c6 (aA i).body) 0)).length) (QY:(decide (K.length<=15) || decide (K.length=25))=true) (F2:Ia (aA i).sc (wD (fO (c6 (aA i).body) 0))=some aa) (F3:Nat.ble ((wD (fO (c6 (aA i).body) 0)).length+2) 97=true):
  body L p a [] ⟨h,0⟩=rL L p i 99 1 (xU (.ref (0::p))) ⟨h.set (0::p) (.cB (K.zip aa)),1⟩:=by
 rw[aav bD aP aR jh eL,bJ,acD (n:=97) je tT qi F1 Av QY,Ru _ aa 97 F2 (lG F3)]
 exact h9 rfl (eZ (aY _) _)
noncomputable def p6 (t c d:I):aL:=[("found",t),("code",c),("low",d)]
noncomputable def iM (t c:I):aL:=[("found",t),("code",c)]
theorem adN {c:Int} {l:List (Int×I)} {r:ay} (au:aD I) (hz:l.length<500):(Y (ai (.at 765)) λt=>Y (H (.ref r)) λf=>Y (H (.int (104+c))) λk=>Y (ju f k t) λU=>Y (ai (.at 772)) λt=>Y (H (.ref r)) λf=>Y (H (.int (108+c))) λk=>Y (ju f k t) λU=>au) ⟨h.set r (.cB l),x⟩=au ⟨h.set r (.cB (gj l [(104+c,.at 765),(108+c,.at 772)])),x⟩:=
 h9 rfl<|h9 rfl<|h9 rfl<|h9 (p_ (fV hz (by decide)))<|h9 rfl<|h9 rfl<|h9 rfl<|h9 (p_ (dg (MY ..) (fV (ON hz 1) (by decide)))) rfl
noncomputable def O9:List Int:=[32,33,34,35,36,37,38,138,142,79,126,127,133,141,92,86,87,66,67,68,69,112,75,76,136]
noncomputable def Pg:List I:=[655,662,669,676,683,690,695,702,709,662,662,662,662,662,730,737,737,779,786,793,807,800,828,828,835].map .at
noncomputable def tP:List (Int×I):=pc (gj (pc (pc (pc (O9.zip Pg) [80,81,82,83,84,85,90,91] 723) [96,97,98,99,139,140] 751) [100,101,102,103] 758) (((List.range' 0 4).map cY).flatMap λc=>[(104+c,.at 765),(108+c,.at 772)])) [115,116,117] 821
theorem anG:body L p 842 [] ⟨h,0⟩=some (.ref (0::p),⟨h.set (0::p) (.cB tP),1⟩):=by
 refine(WB (i:=122) (xU:=λt=>p6 t .undef .undef) (K:=O9) (aa:=Pg) (by kernel_rfl) (by kernel_rfl) (by kernel_rfl) (by kernel_rfl) (by kernel_rfl) rfl (λt=>(by kernel_rfl)) (by kernel_rfl) (by kernel_rfl) (by kernel_rfl) (by kernel_rfl) (by kernel_rfl) (by kernel_rfl) (by kernel_rfl) (by kernel_rfl)).trans ?_
 refine uu 723 (R:=λw=>p6 _ w .undef) (vn [80,81,82,83,84,85,90,91]) (λC=>rfl) (by kernel_rfl) (λC=>(by kernel_rfl)) (λv w au=>(by kernel_rfl)) (λc au=>(by kernel_rfl)) (by kernel_rfl) λw=>?_
 refine uu 751 (R:=λw=>p6 _ w .undef) (vn [96,97,98,99,139,140]) (λC=>rfl) (by kernel_rfl) (λC=>(by kernel_rfl)) (λv w au=>(by kernel_rfl)) (λc au=>(by kernel_rfl)) (by kernel_rfl) λw=>?_
 refine uu 758 (R:=λw=>p6 _ w .undef) (vn [100,101,102,103]) (λC=>rfl) (by kernel_rfl) (λC=>(by kernel_rfl)) (λv w au=>(by kernel_rfl)) (λc au=>(by kernel_rfl)) (by kernel_rfl) λw=>?_
 refine WH (R:=λv=>p6 _ w v) (by kernel_rfl) (λC=>(by kernel_rfl)) (λC=>rfl) (HJ 0 4) (λv w au=>(by kernel_rfl)) (λc l au hz=>(eZ (show Ck L p 122 94 4 (p6 (.ref (0::p)) w (.int c)) au=Y (ai (.at 765)) λt=>Y (H (.ref (0::p))) λf=>Y (H (.int (104+c))) λk=>Y (ju f k t) λU=>Y (ai (.at 772)) λt=>Y (H (.ref (0::p))) λf=>Y (H (.int (108+c))) λk=>Y (ju f k t) λU=>au (p6 (.ref (0::p)) w (.int c)) by kernel_rfl) _).trans (adN _ hz)) (λc=>fu 2) (by kernel_rfl) λv=>?_
 refine uu 821 (R:=λw=>p6 _ w v) (vn [115,116,117]) (λC=>rfl) (by kernel_rfl) (λC=>(by kernel_rfl)) (λv w au=>(by kernel_rfl)) (λc au=>(by kernel_rfl)) (by kernel_rfl) λw=>?_
 exact eZ (show rL L p 122 94 6 (p6 (.ref (0::p)) w v)=H (.ref (0::p)) by kernel_rfl) _
theorem afE:aJ (n+1) p 842 [] ⟨h,k⟩=some (.ref (0::k::p),⟨h.set (0::k::p) (.cB tP),k+1⟩):=by
 rw[vc rfl,anG]
noncomputable def O7:List Int:=[10,11,12,13,14,23,77,78,118,119,134,135]
noncomputable def Pf:List I:=[1001,1001,1008,1008,1015,1036,1050,1050,1064,1064,994,994].map .at
noncomputable def x_:List (Int×I):=pc (pc (pc (pc (pc (pc (O7.zip Pf) ((List.range' 0 6).map cY) 966) ((List.range' 6 4).map cY) 987) [16,17,18] 1022) [19,20,21,22] 1029) [26,29,30,31,94,95] 1043) [24,25,61,122,124,125] 1057
theorem anF:body L p 1071 [] ⟨h,0⟩=some (.ref (0::p),⟨h.set (0::p) (.cB x_),1⟩):=by
 refine(WB (i:=161) (xU:=λt=>iM t .undef) (K:=O7) (aa:=Pf) (by kernel_rfl) (by kernel_rfl) (by kernel_rfl) (by kernel_rfl) (by kernel_rfl) rfl (λt=>(by kernel_rfl)) (by kernel_rfl) (by kernel_rfl) (by kernel_rfl) (by kernel_rfl) (by kernel_rfl) (by kernel_rfl) (by kernel_rfl) (by kernel_rfl)).trans ?_
 refine uu 966 (R:=λw=>iM _ w) (HJ 0 6) (λC=>rfl) (by kernel_rfl) (λC=>(by kernel_rfl)) (λv w au=>(by kernel_rfl)) (λc au=>(by kernel_rfl)) (by kernel_rfl) λw=>?_
 refine uu 987 (R:=λw=>iM _ w) (HJ 6 10) (λC=>rfl) (by kernel_rfl) (λC=>(by kernel_rfl)) (λv w au=>(by kernel_rfl)) (λc au=>(by kernel_rfl)) (by kernel_rfl) λw=>?_
 refine uu 1022 (R:=λw=>iM _ w) (vn [16,17,18]) (λC=>rfl) (by kernel_rfl) (λC=>(by kernel_rfl)) (λv w au=>(by kernel_rfl)) (λc au=>(by kernel_rfl)) (by kernel_rfl) λw=>?_
 refine uu 1029 (R:=λw=>iM _ w) (vn [19,20,21,22]) (λC=>rfl) (by kernel_rfl) (λC=>(by kernel_rfl)) (λv w au=>(by kernel_rfl)) (λc au=>(by kernel_rfl)) (by kernel_rfl) λw=>?_
 refine uu 1043 (R:=λw=>iM _ w) (vn [26,29,30,31,94,95]) (λC=>rfl) (by kernel_rfl) (λC=>(by kernel_rfl)) (λv w au=>(by kernel_rfl)) (λc au=>(by kernel_rfl)) (by kernel_rfl) λw=>?_
 refine uu 1057 (R:=λw=>iM _ w) (vn [24,25,61,122,124,125]) (λC=>rfl) (by kernel_rfl) (λC=>(by kernel_rfl)) (λv w au=>(by kernel_rfl)) (λc au=>(by kernel_rfl)) (by kernel_rfl) λw=>?_
 exact eZ (show rL L p 161 93 7 (iM (.ref (0::p)) w)=H (.ref (0::p)) by kernel_rfl) _
theorem afz:aJ (n+1) p 1071 [] ⟨h,k⟩=some (.ref (0::k::p),⟨h.set (0::k::p) (.cB x_),k+1⟩):=by
 rw[vc rfl,anF]
end
section
theorem dz.trans {G bu rG:bl} (h:dz q G bu) (bH:dz q bu rG):dz q G rG:=λx bE=>(bH x bE).trans (h x bE)
theorem dz.up {G bu:bl} (h:dz (j::q) G bu):dz q G bu:=λx bE=>h x λz=>bE ((uC j q).trans z)
theorem s7 (t) (h:c≠k):¬(k::p)<:+(t++c::p):=λ⟨s,e⟩=>by
 have:=cJ List.reverse e
 simp at this
 exact h this.1.symm
theorem dz.keep {G bu:bl} (h:dz (k::p) G bu) (t) (c) (aN:c≠k) (bw:G (t++c::p)=some o):bu (t++c::p)=some o:=(h _ (s7 t aN)).trans bw
theorem qu (t) {G:bl} (o):dz q G (G.set (t++q) o):=(dz.refl _ _).set ⟨t,rfl⟩ o
theorem Hy {r:ay} (aQ:h r=some (.cB l)):i0 (.ref r) "update" ⟨h,x⟩=some (.bi "dict.update",⟨h,x⟩):=by
 unfold i0
 simp only[Y,obj,aQ]
 rfl
theorem ao7 (L) (q) (aa) (t):fz L q (.bi t) aa=builtin q t aa:=rfl
theorem IT {q r t:ay} (aQ:h r=some (.cB l)) (bY:h t=some (.cB m)) (fJ:r≠t) (hz:l.length+m.length<1000):builtin q "dict.update" [.ref r,.ref t] ⟨h,x⟩=some (.none,⟨h.set r (.cB (gj l m)),x⟩):=by
 show Y (obj r) _ _=_
 simp only[Y,obj,wg,aQ,bY]
 rw[bT (by rw[iU fJ,iU hz];rfl)]
 rfl
noncomputable def JL:List (Int×I):=gj (gj v9 ya) Fb
theorem RM:t7 .none=true:=rfl
theorem afH:∃bH,aJ (n+2) p 952 [] ⟨h,k⟩=some (.ref (0::0::k::p),⟨bH,k+1⟩)/\bH (0::0::k::p)=some (.cB JL)/\dz (k::p) h bH:=by
 have bk:aJ (n+1) (k::p) 501 [] ⟨h,0⟩=_:=afC
 generalize gx:h.set (0::0::k::p) (.cB v9)=az at bk
 have nt:az (0::0::k::p)=some (.cB v9):=by rw[<-gx];exact cP
 have lA:dz (k::p) h az:=by rw[<-gx];exact qu [0,0] _
 have bK:aJ (n+1) (k::p) 648 [] ⟨az,0+1⟩=some (.ref (0::1::k::p),_):=afD
 generalize iX:az.set (0::(0+1)::k::p) (.cB ya)=aE at bK
 have iW:aE (0::0::k::p)=some (.cB v9):=by rw[<-iX,dP (by simp)];exact nt
 have kW:aE (0::1::k::p)=some (.cB ya):=by rw[<-iX];exact cP
 have kR:dz (k::p) h aE:=by rw[<-iX];exact lA.trans (qu [0,1] _)
 have bP:∀q x,builtin q "dict.update" [.ref (0::0::k::p),.ref (0::1::k::p)] ⟨aE,x⟩=_:=λq x=>IT iW kW (by simp) (lG (by kernel_rfl))
 generalize jf:aE.set (0::0::k::p) (.cB (gj v9 ya))=b8 at bP
 have pM:b8 (0::0::k::p)=some (.cB (gj v9 ya)):=by rw[<-jf];exact cP
 have qq:dz (k::p) h b8:=by rw[<-jf];exact kR.trans (qu [0,0] _)
 have nv:aJ (n+1) (k::p) 945 [] ⟨b8,0+1+1⟩=some (.ref (0::2::k::p),_):=afG
 generalize kN:b8.set (0::(0+1+1)::k::p) (.cB Fb)=cH at nv
 have sE:cH (0::0::k::p)=some (.cB (gj v9 ya)):=by rw[<-kN,dP (by simp)];exact pM
 have J0:cH (0::2::k::p)=some (.cB Fb):=by rw[<-kN];exact cP
 have qs:dz (k::p) h cH:=by rw[<-kN];exact qq.trans (qu [0,2] _)
 have jw:∀q x,builtin q "dict.update" [.ref (0::0::k::p),.ref (0::2::k::p)] ⟨cH,x⟩=_:=λq x=>IT sE J0 (by simp) (lG (by kernel_rfl))
 refine⟨cH.set (0::0::k::p) (.cB JL),?_,cP,qs.trans (qu [0,0] _)⟩
 rw[vc rfl,ZU]
 simp only[↓qi,↓kr,↓ku,↓tU,↓bh,↓bP,↓jw,↓bC,↓cQ,↓eH,↓dN,Qs,bk,Hy nt,Hy pM,bK,RM,↓reduceIte,nv]
 rfl
noncomputable def JJ:List (Int×I):=gj (gj tP x_) JL
theorem abP {q r:ay} (aQ:h r=some (.cB l)) (hz:l.length<1000):jk q "dict" [.ref r] ⟨h,x⟩=some (.ref (x::q),⟨h.set (x::q) (.cB l),x+1⟩):=by
 show Y (obj r) _ _=_
 simp only[Y,obj,wg,aQ]
 rw[bT (iU hz)]
 rfl
theorem afB:∃bH,aJ (n+3) p 1078 [] ⟨h,k⟩=some (.ref (1::k::p),⟨bH,k+1⟩)/\bH (1::k::p)=some (.cB JJ)/\dz (k::p) h bH:=by
 refine iu λaH ez=>?_
 have bk:aJ (n+2) (k::p) 842 [] ⟨h,0⟩=_:=afE
 generalize gx:h.set (0::0::k::p) (.cB tP)=az at bk
 have nt:az (0::0::k::p)=some (.cB tP):=by rw[<-gx];exact cP
 have lA:dz (k::p) h az:=by rw[<-gx];exact qu [0,0] _
 have je:jk (k::p) "dict" [.ref (0::0::k::p)] ⟨az,0+1⟩=some (.ref (1::k::p),⟨_,2⟩):=abP nt (lG (by kernel_rfl))
 generalize iX:az.set ((0+1)::k::p) (.cB tP)=aE at je
 have iW:aE (1::k::p)=some (.cB tP):=by rw[<-iX];exact cP
 have kR:dz (k::p) h aE:=by rw[<-iX];exact lA.trans (qu [1] _)
 have gJ:aJ (n+2) (k::p) 1071 [] ⟨aE,2⟩=_:=afz
 generalize jf:aE.set (0::2::k::p) (.cB x_)=b8 at gJ
 have pM:b8 (1::k::p)=some (.cB tP):=by rw[<-jf,dP (by simp)];exact iW
 have wj:b8 (0::2::k::p)=some (.cB x_):=by rw[<-jf];exact cP
 have qq:dz (k::p) h b8:=by rw[<-jf];exact kR.trans (qu [0,2] _)
 have dF:∀q x,builtin q "dict.update" [.ref (1::k::p),.ref (0::2::k::p)] ⟨b8,x⟩=_:=λq x=>IT pM wj (by simp) (lG (by kernel_rfl))
 generalize kN:b8.set (1::k::p) (.cB (gj tP x_))=cH at dF
 have sE:cH (1::k::p)=some (.cB (gj tP x_)):=by rw[<-kN];exact cP
 have qs:dz (k::p) h cH:=by rw[<-kN];exact qq.trans (qu [1] _)
 obtain⟨kB,sI,J1,zh⟩:=afH (n:=n) (k:=2+1)
 have Cm:=zh.keep [] 1 (by lia) sE
 have qC:∀q x,builtin q "dict.update" [.ref (1::k::p),.ref (0::0::(2+1)::k::p)] ⟨kB,x⟩=_:=λq x=>IT Cm J1 (by simp) (lG (by kernel_rfl))
 refine ez ?_
 refine⟨kB.set (1::k::p) (.cB JJ),?_,cP,(qs.trans zh.up).trans (qu [1] _)⟩
 rw[vc rfl,YD]
 simp only[↓je,↓qi,↓kr,↓ku,↓tU,↓CC,↓bh,↓dF,↓qC,↓ck,↓bC,↓cQ,↓eH,↓dN,P_,bk,Hy iW,gJ,RM,↓reduceIte,Hy sE,sI]
 rfl
theorem aj9:JJ=q_:=by kernel_rfl
theorem afA:∃bH,aJ (n+3) p 1078 [] ⟨h,k⟩=some (.ref (1::k::p),⟨bH,k+1⟩)/\bH (1::k::p)=some (.cB q_)/\dz (k::p) h bH:=by
 have:=afB (n:=n) (p:=p) (h:=h) (k:=k)
 rwa [aj9]at this
end
section
variable {h:bl}
theorem QN {R:I->aL} {aa:List I} {aS:Nat->List I->bl->Nat->Prop} (cC:∀w v,(R w).put s v=R v) (nW:jP it ⟨h,k⟩=some ((),⟨h,k⟩))
  (bG:∀j b5 g y,aS j b5 g y->g8 it j ⟨g,y⟩=some (aa[j]?,⟨g,y⟩))
  (step:∀j b5 g y (aW:j<aa.length),b5.length=j->aS j b5 g y->∃u gx lV,ek (k::p) (R aa[j]) ⟨g,y⟩=some (u,⟨gx,lV⟩)/\gx (0::k::p)=some (.list b5)/\aS (j+1) (b5++[u]) (gx.set (0::k::p) (.list (b5++[u]))) lV) (gD:aa.length<900)
  (cj:aS 0 [] (h.set (0::k::p) (.list [])) 1) (w):
  ∃b5 g y,jZ p (λU U=>ai true) ek s it (R w) ⟨h,k⟩=some (.ref (0::k::p),⟨g,k+1⟩)/\aS aa.length b5 g y/\b5.length=aa.length:=
 (FJ (aS:=λj b5 C=>aS j b5 C.h C.k/\b5.length=j) cC nW (λj b5 C z=>bG j b5 C.h C.k z.1) (λj b5 C z=>ng z.2)
  (λj b5 C aW z=>(step j b5 C.h C.k aW z.2 z.1).elim λu y=>y.elim λgx y=>y.elim λlV y=>.take _ _ _ rfl y.1 y.2.1 λU=>⟨y.2.2,by rw[gO,z.2];rfl⟩) (fV gD (by decide)) ⟨cj,rfl⟩ w).elim λb5 z=>z.elim λC z=>⟨b5,C.h,C.k,z.1,z.2.1,z.2.2⟩
theorem LO {r:ay} (aQ:h r=some (.list aa)):jP (.ref r) ⟨h,x⟩=some ((),⟨h,x⟩):=by
 show Y (obj r) _ _=_
 simp only[Y,obj,aQ,ai]
theorem MQ {r:ay} (aQ:h r=some (.list aa)) (j):g8 (.ref r) j ⟨h,x⟩=some (aa[j]?,⟨h,x⟩):=by
 show Y (obj r) _ _=_
 simp only[Y,obj,aQ,ai]
theorem abt {R:I->aL} {r:ay} (cC:∀w v,(R w).put s v=R v) (aQ:h r=some (.list aa)) (kO:¬(k::p)<:+r) (gD:aa.length<900)
  (nB:∀v g y,v∈aa->∃lU,ek (k::p) (R v) ⟨g,y⟩=some (f v,⟨g,lU⟩)) (w):
  ∃g,jZ p (λU U=>ai true) ek s (.ref r) (R w) ⟨h,k⟩=some (.ref (0::k::p),⟨g,k+1⟩)/\g (0::k::p)=some (.list (aa.map f))/\dz (k::p) h g:=
 have adj:=List.filter_eq_self.mpr λU U=>rfl
 have ajn:r≠0::k::p:=λz=>kO (z▸⟨[0],rfl⟩)
 ⟨h.set (0::k::p) (.list (aa.map f)),(Cy (af:=λG=>G) cC (LO aQ) (λo j y=>(MQ ((dP ajn).trans aQ) j).trans (by rw[List.map_id'])) (λU U U U=>rfl) (λo i y aj U=>nB i _ y aj) (λU U=>rfl) (fV gD (by decide)) w).trans (by rw[adj]),cP,(dz.refl _ _).set ⟨[0],rfl⟩ _⟩
inductive Pb (h:bl) q (aa:List I) (f:I->cw) j:List I->bL->Prop
 |mk (g:bl) (a:g (0::q)=some (.list (iE (λi=>(i+1)::q) j))) (b:∀i v,i<j->aa[i]?=some v->g ((i+1)::q)=some (f v)) (o:dz q h g):Pb h q aa f j (iE (λi=>(i+1)::q) j) ⟨g,j+1⟩
theorem QK {R:I->aL} {r:ay} {f:I->cw} (cC:∀w v,(R w).put s v=R v) (aQ:h r=some (.list aa)) (kO:¬(k::p)<:+r) (gD:aa.length<900)
  (nB:∀v g y,v∈aa->dz (k::p) h g->ek (k::p) (R v) ⟨g,y⟩=some (.ref (y::k::p),⟨g.set (y::k::p) (f v),y+1⟩)) (w):
  ∃g,jZ p (λU U=>ai true) ek s (.ref r) (R w) ⟨h,k⟩=some (.ref (0::k::p),⟨g,k+1⟩)/\g (0::k::p)=some (.list (iE (λi=>(i+1)::k::p) aa.length))/\(∀i v,aa[i]?=some v->g ((i+1)::k::p)=some (f v))/\dz (k::p) h g:=
 have rs:∀j,iE (λi=>(i+1)::k::p) (j+1)=iE (λi=>(i+1)::k::p) j++[.ref ((j+1)::k::p)]:=λj=>by unfold iE;rw[Jf,qd];rfl
 have ne:∀{i j:Nat},i≠j->(i::k::p)≠j::k::p:=λh z=>h (vS z).1
 (FJ (kh:=λU U=>ai true) (aS:=Pb h (k::p) aa f) cC (LO aQ) (λj b5 C aS=>aS.rec λg U U o=>MQ ((o r kO).trans aQ) j) (λj b5 C aS=>aS.rec λg U U U=>ng ((fD ..).trans uB))
  (λj b5 C aW aS=>aS.rec λg a b o=>.take _ _ _ rfl (nB aa[j] g (j+1) (sf aW) o) ((dP (o:=f aa[j]) (ne (Nat.succ_ne_zero j).symm)).trans a) λU=>by
   rw[<-rs]
   refine .mk _ cP (λi v aj bJ=>(dP (ne (Nat.succ_ne_zero i))).trans ?_) ((o.set ⟨[j+1],rfl⟩ _).set ⟨[0],rfl⟩ _)
   by_cases q:i=j
   .subst q
    rw[h7 aW]at bJ
    rw[<-iH bJ];exact cP
   .exact(dP (ne λz=>q (BU z))).trans (b i v (Nat.lt_of_le_of_ne (z3 aj) q) bJ)) (fV gD (by decide)) (.mk _ cP (λi v aj=>absurd aj (rD _)) ((dz.refl _ _).set ⟨[0],rfl⟩ _)) w).elim λb5 z=>z.elim λC z=>
  z.2.rec (λg a b o e=>⟨g,e,a,λi v bJ=>b i v (List.getElem?_eq_some_iff.mp bJ).1 bJ,o⟩) z.1
theorem set_comm {r d:ay} (fJ:r≠d):(h.set d a).set r b=(h.set r b).set d a:=by
 funext x;unfold bl.set
 by_cases e:x=r
 .rw[bT e,bT e,e,bX fJ]
 .rw[bX e,bX e]
def l5 (q d:ay) (G bu:bl):Prop:=∀x,x≠d->¬q<:+x->bu x=G x
set_option tactic.hygienic true in
theorem l5.set {G bu:bl} (o:l5 q d G bu) (gh):l5 q d G (bu.set (t++q) gh):=λx az aE=>by
 unfold bl.set;split
 .rename_i e;exact absurd ⟨t,e.symm⟩ aE
 .exact o x az aE
theorem l5.refl {G:bl}:l5 q d G G:=λU U U=>rfl
theorem l5.off {G bu rG:bl} (o:l5 q d G bu) (gM:dz (j::q) bu rG):l5 q d G rG:=λx az aE=>(gM.up x aE).trans (o x az aE)
end
section
variable {k x:Nat}
theorem zg (e:c≠k):¬(k::p)<:+(c::p):=s7 [] e
theorem s6 (e:c≠k):¬(k::p)<:+(a::c::p):=s7 [a] e
theorem amM (e:¬q<:+d):t++q≠d:=λz=>e ⟨t,z⟩
theorem r6 (e:¬q<:+d):¬(j::q)<:+d:=λz=>e ((uC j q).trans z)
theorem yf (h:a=true) (g:b=true):(a&&b)=true:=by rw[h,g];rfl
theorem abg (x):(x+1)::q≠x::q:=λz=>z5 x (vS z).1
theorem ai5 (c8:jc.lookup aH=some ⟨init,sX⟩) (aj:L q init (.ref ((x+1)::q)::aa) ⟨(h.set ((x+1)::q) (.inst aH (x::q))).set (x::q) (.attrs []),x+2⟩=some (.none,aT)):
  fz L q (.at aH) aa ⟨h,x⟩=some (.ref ((x+1)::q),aT):=by
 rw[<-set_comm (abg x)]at aj
 exact Qv c8 aj
noncomputable def ao3 (q:ay):List (Str×I):=[("original",.ref (0::0::q)),("current",.ref (0::1::q)),("touched",.ref (0::2::q)),("ends",.ref (3::q)),("on_curve",.ref (5::q))]
noncomputable def nh (q:ay) (g:bl):List (List Nat×cw)->Prop
 |[]=>True
 |(t,o)::l=>g (t++q)=some o/\nh q g l
noncomputable def keeps (pX:List Nat) (gn:List (List Nat×cw)):Bool:=gn.all λe=>match e.1.getLast? with|some j=>pX.all λi=>!Nat.beq j i|none=>false
theorem nh.mono (gn) (h:∀e∈gn,f5 (e.1++q)=g (e.1++q)) (a:nh q g gn):nh q f5 gn:=by
 induction gn with
 |nil=>trivial
 |cons e gn ih=>exact⟨(h e jH).trans a.1,ih (λx bE=>h x (i9 _ bE)) a.2⟩
theorem nh.app (aC R) (a:nh q g aC) (b:nh q g R):nh q g (aC++R):=by
 induction aC with
 |nil=>exact b
 |cons e aC ih=>exact⟨a.1,ih a.2⟩
theorem agq (h:keeps pX gn=true) (cK:e∈gn) (aW:j∈pX) q:¬(j::q)<:+(e.1++q):=by
 have az:=List.all_eq_true.mp h e cK
 cases aI:e.1.getLast? with
 |none=>rw[aI]at az;exact absurd az xP
 |some c=>
  rw[aI]at az
  have aE:=List.all_eq_true.mp az j aW
  obtain⟨t,bY⟩:=List.getLast?_eq_some_iff.mp aI
  rw[bY,nM]
  exact s7 t (λz=>by rw[z,Nat.beq_refl]at aE;exact absurd aE xP)
structure xW (aH:Addr) (q r d) (h:bl) (gn:List (List Nat×cw)) (aC:List (Str×I)) (g:bl):Prop where
 aQ:¬q<:+r
 hd:¬q<:+d
 ne:r≠d
 a:g r=some (.inst aH d)
 b:g d=some (.attrs aC)
 o:l5 q d h g
 f:nh q g gn
def XA (R:bl->Prop) (D:Option (I×bl)):Prop:=∃g,D=some (.none,g)/\R g
section
variable {r d:ay} {R:bl->Prop}
theorem xW.start (az:h r=some (.inst aH d)) (aE:h d=some (.attrs [])) (hd:¬q<:+d) (aQ:¬q<:+r) (fJ:r≠d):xW aH q r d h [] [] h:=⟨aQ,hd,fJ,az,aE,λU U U=>rfl,trivial⟩
def dh (aH:Addr) (q r d:ay) (h:bl) (R:bl->Prop) (gn:List (List Nat×cw)) (aC:List (Str×I)) (nu:Q.gw) (y:Nat):Prop:=∀g,xW aH q r d h gn aC g->XA R (Q.go nu ⟨g,y⟩)
theorem dh.c9 {u:I} (e:Q.hd nu=Q.j3 (lT (.ref r) s u)) (z:(pO s&&(q2 aH&&decide (aC.length<100)))=true) (k:dh aH q r d h R gn (g9 aC s u) (Q.vo nu .none) y):dh aH q r d h R gn aC nu y:=λg c=>by
 have cR:=(Bool.and_eq_true_iff.mp z).1
 have gC:=Bool.and_eq_true_iff.mp (Bool.and_eq_true_iff.mp z).2
 rw[Q.B (e▸Q.gy (Io c.a c.b cR gC.1 gC.2)) rfl]
 exact k _ ⟨c.aQ,c.hd,c.ne,(dP c.ne).trans c.a,cP,λx bE Z=>(dP bE).trans (c.o x bE Z),c.f.mono gn λe U=>dP (amM c.hd)⟩
theorem dh.gh {E4:List (List Nat×cw)} {pX:List Nat} (m:∀g,xW aH q r d h gn aC g->∃f5,Q.hd nu ⟨g,j⟩=some (v,⟨f5,y⟩)/\(∀x,(∀i∈pX,¬(i::q)<:+x)->f5 x=g x)/\nh q f5 E4) (wV:keeps pX gn=true) (k:dh aH q r d h R (E4++gn) aC (Q.vo nu v) y):dh aH q r d h R gn aC nu j:=λg c=>
 (m g c).elim λf5 m=>by
  rw[Q.B m.1 rfl]
  have same:∀x,¬q<:+x->f5 x=g x:=λx bE=>m.2.1 x λi U=>r6 bE
  exact k _ ⟨c.aQ,c.hd,c.ne,(same _ c.aQ).trans c.a,(same _ c.hd).trans c.b,λx bE Z=>(same x Z).trans (c.o x bE Z),m.2.2.app _ _ (c.f.mono gn λe cK=>m.2.1 _ λi aj=>agq wV cK aj q)⟩
theorem dh.l8 {gh:cw} (e:∀g,xW aH q r d h gn aC g->Q.hd nu ⟨g,j⟩=some (.ref (j::q),⟨g.set (j::q) gh,j+1⟩)) (wV:keeps [j] gn=true) (k:dh aH q r d h R (([j],gh)::gn) aC (Q.vo nu (.ref (j::q))) (j+1)):dh aH q r d h R gn aC nu j:=
 dh.gh (E4:=[([j],gh)]) (λg c=>⟨_,e g c,λx bE=>qu [] gh x (bE j jH),cP,trivial⟩) wV k
theorem dh.mk {gh:cw} {m:aD I} (bM:Q.hd nu=m) (e:∀g,m ⟨g,j⟩=some (.ref (j::q),⟨g.set (j::q) gh,j+1⟩)) (wV:keeps [j] gn=true) (k:dh aH q r d h R (([j],gh)::gn) aC (Q.vo nu (.ref (j::q))) (j+1)):dh aH q r d h R gn aC nu j:=.l8 (λg c=>(eZ bM _).trans (e g)) wV k
theorem dh.B (e:∀g,xW aH q r d h gn aC g->Q.hd nu ⟨g,j⟩=some (v,⟨g,j⟩)) (k:dh aH q r d h R gn aC (Q.vo nu v) j):dh aH q r d h R gn aC nu j:=λg c=>(Q.B (e g c) rfl:Q.go nu ⟨g,j⟩=_)▸k g c
theorem dh.H {K:I->Q.gw} (Ln:∀K,Q.Gu v K=K v) (k:dh aH q r d h R gn aC (K v) j):dh aH q r d h R gn aC (Q.Gu v K) j:=(Ln K).symm▸k
end
theorem w6 {e:Q.bF I} {c:Nat} {r d:ay} {R:bl->Prop} (bI:sQ a=true) (aP:body (aJ c) (k::p) a aa=e.bB) (az:h r=some (.inst aH d)) (aE:h d=some (.attrs [])) (hd:¬(k::p)<:+d) (aQ:¬(k::p)<:+r) (fJ:r≠d) (i:dh aH (k::p) r d h R [] [] (e.cps Q.ret) 0):∃g,aJ (c+1) p a aa ⟨h,k⟩=some (.none,⟨g,k+1⟩)/\R g:=
 (i h (xW.start az aE hd aQ fJ)).elim λg i=>⟨g,Q.qh bI aP i.1,i.2⟩
theorem nh.all (a:nh q g gn) (e) (h:e∈gn):g (e.1++q)=some e.2:=by
 induction gn with
 |nil=>nomatch h
 |cons x gn ih=>exact(List.mem_cons.mp h).elim (λz=>z▸a.1) λz=>ih a.2 z
theorem nh.of {g:bl} (h:∀e∈gn,g (e.1++q)=some e.2):nh q g gn:=by
 induction gn with
 |nil=>trivial
 |cons x gn ih=>exact⟨h x jH,ih λe cK=>h e (i9 x cK)⟩
noncomputable def Gl (n:Nat):List (List Nat×cw):=(List.range n).map λi=>([i+1,2],.list [.bool false,.bool false])
theorem adg (h:i<n):([i+1,2],cw.list [.bool false,.bool false])∈Gl n:=List.mem_map.mpr ⟨i,List.mem_range.mpr h,rfl⟩
theorem Rx {P:List Nat×cw->Prop} (k:∀i,i<n->P ([i+1,2],.list [.bool false,.bool false])) (e) (h:e∈Gl n):P e:=
 (List.mem_map.mp h).elim λi z=>z.2▸k i (List.mem_range.mp z.1)
theorem LV {pX:List Nat} {n:Nat} {G:List (List Nat×cw)} (h:(pX.all λi=>!Nat.beq 2 i)=true) (b:keeps pX G=true):keeps pX (Gl n++G)=true:=by
 unfold keeps
 rw[List.all_append]
 exact yf (List.all_eq_true.mpr (Rx λi aj=>h)) b
section
theorem vO {s:Str} {av:List (Int×Int)} {uL:I->aL} (cC:∀w v,(uL w).put s v=uL v) (aQ:g pr=some (.list (av.map e9))) (q1:¬q<:+pr) (hz:av.length<=100)
  (cK:∀a C,ek (j::q) (uL (e9 a)) C=some (e9 a,C)) (w):∃f5,jZ q (λU U=>ai true) ek s (.ref pr) (uL w) ⟨g,j⟩=some (.ref (0::j::q),⟨f5,j+1⟩)/\(∀x,(∀i∈[j],¬(i::q)<:+x)->f5 x=g x)/\nh q f5 [([0,j],.list (av.map e9))]:=
 (abt cC aQ (r6 q1) (by rw[fD];exact dg hz (by decide)) (λv g y bJ=>⟨y,(List.mem_map.mp bJ).elim λa z=>z.2▸cK a _⟩) w).elim λf5 m=>
  ⟨f5,m.1,λx bE=>m.2.2 x (bE j (.head _)),(List.map_id' (av.map e9))▸m.2.1,trivial⟩
theorem ao4 {s:Str} {av:List (Int×Int)} {uL:I->aL} (cC:∀w v,(uL w).put s v=uL v) (aQ:g pr=some (.list (av.map e9))) (q1:¬q<:+pr) (hz:av.length<=100)
  (cK:∀v g y,ek (2::q) (uL v) ⟨g,y⟩=some (.ref (y::2::q),⟨g.set (y::2::q) (.list [.bool false,.bool false]),y+1⟩)) (w):∃f5,jZ q (λU U=>ai true) ek s (.ref pr) (uL w) ⟨g,2⟩=some (.ref (0::2::q),⟨f5,2+1⟩)/\(∀x,(∀i∈[2],¬(i::q)<:+x)->f5 x=g x)/\nh q f5 (([0,2],.list (iE (λi=>(i+1)::2::q) av.length))::Gl av.length):=
 (QK cC aQ (r6 q1) (by rw[fD];exact dg hz (by decide)) (λv g y bJ U=>cK v g y) w).elim λf5 m=>
  ⟨f5,m.1,λx bE=>m.2.2.2 x (bE 2 (.head _)),(fD e9)▸m.2.1,.of (Rx λi aj=>m.2.2.1 i (e9 av[i]) (by rw[jI,h7 aj];rfl))⟩
end
theorem aly (h:g a=some (.list [.bool true])) (bM:m<=100):fk q .Mult (.ref a) (.int (m:Nat)) ⟨g,y⟩=some (.ref (y::q),⟨g.set (y::q) (.list (List.replicate m (.bool true))),y+1⟩):=by
 refine h9 (show obj a ⟨g,y⟩=some (_,_) by unfold obj;rw[show(⟨g,y⟩:bL).h a=_ from h]) ?_
 show(if _ then _ else _:aD I) _=_
 rw[bT (by simp;omega)]
 rfl
def Pq (q:ay) (d:ay) (av:List (Int×Int)) (ao:List I) (g:bl):Prop:=g d=some (.attrs (ao3 q))/\g (0::0::q)=some (.list (av.map e9))/\g (0::1::q)=some (.list (av.map e9))/\
 g (0::2::q)=some (.list (iE (λi=>(i+1)::2::q) av.length))/\(∀i,i<av.length->g ((i+1)::2::q)=some (.list [.bool false,.bool false]))/\g (3::q)=some (.list ao)/\g (5::q)=some (.list (List.replicate av.length (.bool true)))
theorem Su {r d pr:ay} {av:List (Int×Int)} {Gg:I} (aP:body (aJ n) (k::p) 1248 aa=(Q.Fu (aJ n) (k::p) (.ref r) (.ref pr) Gg .none).bB) (az:h r=some (.inst 1272 d)) (aE:h d=some (.attrs [])) (hd:¬(k::p)<:+d) (aQ:¬(k::p)<:+r) (fJ:r≠d) (b8:h pr=some (.list (av.map e9))) (q1:¬(k::p)<:+pr) (Lw:pr≠d)
  (hz:av.length<=100) (cK:∀g y,l5 (k::p) d h g->jk (k::p) "list" [Gg] ⟨g,y⟩=some (.ref (y::k::p),⟨g.set (y::k::p) (.list ao),y+1⟩)) (Ln:∀K,Q.Gu Gg K=K Gg):
  ∃g,aJ (n+1) p 1248 aa ⟨h,k⟩=some (.none,⟨g,k+1⟩)/\l5 (k::p) d h g/\Pq (k::p) d av ao g:=
 have cA:∀g,l5 (k::p) d h g->g pr=some (.list (av.map e9)):=λg o=>(o pr Lw q1).trans b8
 w6 rfl aP az aE hd aQ fJ<|dh.gh (pX:=[0]) (λg c=>vO (λU U=>rfl) (cA g c.o) q1 hz (λa C=>eZ (Q.aaS ..) C) .undef) rfl<|dh.c9 rfl rfl<|
  dh.gh (λg c=>vO (λU U=>rfl) (cA g c.o) q1 hz (λa C=>eZ (Q.aaT ..) C) .undef) rfl<|dh.c9 rfl rfl<|
  dh.gh (λg c=>ao4 (λU U=>rfl) (cA g c.o) q1 hz (λv g y=>eZ (Q.aaU ..) _) .undef) rfl<|dh.c9 rfl rfl<|
  dh.H (K:=λv=>.pr (fz (aJ n) (k::p) (.type "list") [v]) _) Ln<|dh.l8 (λg c=>Q.fR (cK g _ c.o)) (yf rfl (LV rfl rfl))<|dh.c9 rfl rfl<|
  dh.B (λg c=>rfl)<|dh.l8 (λg c=>rfl) (yf rfl (yf rfl (LV rfl rfl)))<|
  dh.B (λg c=>mP c.a c.b rfl rfl rfl rfl)<|dh.B (λg c=>Q.iy ((o6 (c.f.all _ (.tail _ (.tail _ (.tail _ (OM _ (.tail _ (.head _))))))) (by rw[fD];exact d5 hz (by decide))).trans (by rw[fD])))<|
  dh.l8 (λg c=>aly c.f.1 hz) (yf rfl (yf rfl (yf rfl (LV rfl rfl))))<|dh.c9 rfl rfl λg c=>
  ⟨g,rfl,c.o,c.b,c.f.all _ (.tail _ (.tail _ (.tail _ (.tail _ (OM _ (.tail _ (.head _))))))),c.f.all _ (.tail _ (.tail _ (.tail _ (.tail _ (OM _ (.head _)))))),c.f.2.2.2.1,λi aj=>c.f.all _ (.tail _ (.tail _ (.tail _ (.tail _ (List.mem_append_left _ (adg aj)))))),c.f.2.2.1,c.f.1⟩
end
section
variable {h:bl}
def xZ (q:ay) (x:Nat) (h g:bl):Prop:=∀y,¬(x::q)<:+y->¬((x+1)::q)<:+y->¬((x+2)::q)<:+y->g y=h y
theorem cu (e:¬q<:+y):y≠q:=λz=>e (by rw[z];exact List.suffix_refl _)
theorem zd {aa:List I} {F:bl->Prop} (c8:jc.lookup aH=some ⟨init,sX⟩)
  (aj:∃g,aJ n q init (.ref ((x+1)::q)::aa) ⟨(h.set ((x+1)::q) (.inst aH (x::q))).set (x::q) (.attrs []),x+2⟩=some (.none,⟨g,x+2+1⟩)/\l5 ((x+2)::q) (x::q) ((h.set ((x+1)::q) (.inst aH (x::q))).set (x::q) (.attrs [])) g/\F g):
  ∃g,fz (aJ n) q (.at aH) aa ⟨h,x⟩=some (.ref ((x+1)::q),⟨g,x+2+1⟩)/\xZ q x h g/\g ((x+1)::q)=some (.inst aH (x::q))/\F g:=by
 refine iu λaH ez=>?_
 obtain⟨g,e,o,f⟩:=aj
 refine ez ?_
 refine⟨g,ai5 c8 e,λy az aE b8=>?_,?_,f⟩
 .rw[o y (cu az) b8,dP (cu az),dP (cu aE)]
 .rw[o _ (by simp) (zg (by omega)),dP (by simp)];exact cP
theorem zc (aH):((h.set ((x+1)::q) (.inst aH (x::q))).set (x::q) (.attrs [])) ((x+1)::q)=some (.inst aH (x::q))/\((h.set ((x+1)::q) (.inst aH (x::q))).set (x::q) (.attrs [])) (x::q)=some (.attrs [])/\¬((x+2)::q)<:+(x::q)/\¬((x+2)::q)<:+((x+1)::q)/\((x+1)::q)≠x::q:=
 ⟨by rw[dP (by simp)];exact cP,cP,zg (by omega),zg (by omega),by simp⟩
theorem ag1 (q) (g) (y):iK q [] ⟨g,y⟩=some (.ref (y::q),⟨g.set (y::q) (.list []),y+1⟩):=rfl
theorem MH (gn) (c8:jc.lookup aH=some ⟨init,sX⟩)
  (aj:∀{h:bl} {r d:ay},h r=some (.inst aH d)->h d=some (.attrs [])->¬((x+2)::q)<:+d->¬((x+2)::q)<:+r->r≠d->∃g,aJ n q init (.ref r::aa) ⟨h,x+2⟩=some (.none,⟨g,x+2+1⟩)/\l5 ((x+2)::q) d h g/\(d=x::q->nh q g gn)):
  ∃g,fz (aJ n) q (.at aH) aa ⟨h,x⟩=some (.ref ((x+1)::q),⟨g,x+2+1⟩)/\(∀z,(∀i∈[x,x+1,x+2],¬(i::q)<:+z)->g z=h z)/\nh q g (([x+1],.inst aH (x::q))::gn):=
 let dj:=zc (h:=h) (q:=q) (x:=x) aH
 (zd (n:=n) (h:=h) (x:=x) (F:=λg=>nh q g gn) c8 ((aj dj.1 dj.2.1 dj.2.2.1 dj.2.2.2.1 dj.2.2.2.2).elim λg m=>⟨g,m.1,m.2.1,m.2.2 rfl⟩)).elim λg m=>⟨g,m.1,λz hz=>m.2.1 z (hz _ (.head _)) (hz _ (.tail _ (.head _))) (hz _ (.tail _ (.tail _ (.head _)))),m.2.2.1,m.2.2.2⟩
noncomputable def RQ (q:ay):List (Str×I):=[(("functions":Str),.ref (0::q)),(("instructions":Str),.ref (1::q))]
theorem aeX {r d:ay} (az:h r=some (.inst 103 d)) (aE:h d=some (.attrs [])) (hd:¬(k::p)<:+d) (aQ:¬(k::p)<:+r) (fJ:r≠d):∃g,aJ (n+1) p 93 (.ref r::[]) ⟨h,k⟩=some (.none,⟨g,k+1⟩)/\l5 (k::p) d h g/\g d=some (.attrs (RQ (k::p)))/\g (0::k::p)=some (.cB [])/\g (1::k::p)=some (.cB []):=
 w6 rfl (Q.ZQ _ _ _) az aE hd aQ fJ<|dh.mk (gh:=.cB []) rfl (λg=>rfl) rfl<|dh.c9 rfl rfl<|dh.mk (gh:=.cB []) rfl (λg=>rfl) rfl<|dh.c9 rfl rfl λg c=>⟨g,rfl,c.o,c.b,c.f.2.1,c.f.1⟩
noncomputable def H7 (q:ay) (code:List Nat) (ze:Int):List (Str×I):=[(("code":Str),.bytes code),(("at":Str),.int 0),(("calls":Str),.ref (0::q)),(("most_calls":Str),.int ze)]
theorem ae0 {r d:ay} {code:List Nat} (az:h r=some (.inst 173 d)) (aE:h d=some (.attrs [])) (hd:¬(k::p)<:+d) (aQ:¬(k::p)<:+r) (fJ:r≠d):∃g,aJ (n+1) p 142 (.ref r::[.bytes code,.int ze]) ⟨h,k⟩=some (.none,⟨g,k+1⟩)/\l5 (k::p) d h g/\g d=some (.attrs (H7 (k::p) code ze))/\g (0::k::p)=some (.list []):=
 w6 rfl (Q.Y6 _ _ _ _ _) az aE hd aQ fJ<|dh.c9 rfl rfl<|dh.c9 rfl rfl<|dh.mk (gh:=.list []) rfl (λg=>rfl) rfl<|dh.c9 rfl rfl<|dh.c9 rfl rfl λg c=>⟨g,rfl,c.o,c.b,c.f.1⟩
noncomputable def Ip (q:ay) (ze:Int):List (Str×I):=[(("most":Str),.int ze),(("numbers":Str),.ref (0::q))]
theorem ae2 {r d:ay} (az:h r=some (.inst 1179 d)) (aE:h d=some (.attrs [])) (hd:¬(k::p)<:+d) (aQ:¬(k::p)<:+r) (fJ:r≠d):∃g,aJ (n+1) p 1141 (.ref r::[.int ze]) ⟨h,k⟩=some (.none,⟨g,k+1⟩)/\l5 (k::p) d h g/\g d=some (.attrs (Ip (k::p) ze))/\g (0::k::p)=some (.list []):=
 w6 rfl (Q.YI _ _ _ _) az aE hd aQ fJ<|dh.c9 rfl rfl<|dh.mk (gh:=.list []) rfl (λg=>rfl) rfl<|dh.c9 rfl rfl λg c=>⟨g,rfl,c.o,c.b,c.f.1⟩
noncomputable def vB (a b c:Int):List (Str×I):=[(("period":Str),.int a),(("phase":Str),.int b),(("threshold":Str),.int c)]
theorem ae1 {r d:ay} (az:h r=some (.inst 525 d)) (aE:h d=some (.attrs [])) (hd:¬(k::p)<:+d) (aQ:¬(k::p)<:+r) (fJ:r≠d):∃g,aJ (n+1) p 515 (.ref r::[.int a,.int b,.int c]) ⟨h,k⟩=some (.none,⟨g,k+1⟩)/\l5 (k::p) d h g/\g d=some (.attrs (vB a b c)):=
 w6 rfl (Q.PO _ _ _ _ _ _) az aE hd aQ fJ<|dh.c9 rfl rfl<|dh.c9 rfl rfl<|dh.c9 rfl rfl λg c=>⟨g,rfl,c.o,c.b⟩
theorem aeY:∃g,aJ (n+2) p 536 [.str ("grid":Str)] ⟨h,k⟩=some (.ref (2::k::p),⟨g,k+1⟩)/\dz (k::p) h g/\g (2::k::p)=some (.inst 525 (1::k::p))/\g (1::k::p)=some (.attrs (vB 64 0 32)):=
 have dj:=zc (h:=h.set (0::k::p) (.jn vC)) (q:=k::p) (x:=1) 525
 (zd (n:=n+1) (h:=h.set (0::k::p) (.jn vC)) (q:=k::p) (x:=1) (aH:=525) (init:=515) (sX:=[]) (aa:=[.int 64,.int 0,.int 32]) (F:=λg=>g (1::k::p)=some (.attrs (vB 64 0 32))) rfl (ae1 (n:=n) dj.1 dj.2.1 dj.2.2.1 dj.2.2.2.1 dj.2.2.2.2)).elim λg m=>
  ⟨g,Q.qh rfl (Q.PR (aJ (n+1)) (k::p) (.str ("grid":Str))) (Q.B (v:=.ref (0::k::p)) (aT:=⟨h.set (0::k::p) (.jn vC),1⟩) rfl<|Q.B (Q.iC (UM (C:=⟨h.set (0::k::p) (.jn vC),1⟩) (v:=t3 64 0 32) cP rfl))<|Q.B (vd (C:=⟨h.set (0::k::p) (.jn vC),1⟩) (v:=t3 64 0 32) cP rfl)<|Q.B m.1 rfl),
   λy cM=>(m.2.1 y (r6 cM) (r6 cM) (r6 cM)).trans (qu [0] _ y cM),m.2.2.1,m.2.2.2⟩
noncomputable def Iq (q:ay):List (Str×I):=[(("freedom":Str),.tup [.int 16384,.int 0]),(("projection":Str),.tup [.int 16384,.int 0]),(("dual":Str),.tup [.int 16384,.int 0]),(("rp0":Str),.int 0),(("rp1":Str),.int 0),(("rp2":Str),.int 0),(("zp0":Str),.int 1),(("zp1":Str),.int 1),(("zp2":Str),.int 1),(("loop":Str),.int 1),(("minimum":Str),.int 64),(("cut_in":Str),.int 68),(("single_cut_in":Str),.int 0),(("single_width":Str),.int 0),(("delta_base":Str),.int 9),(("delta_shift":Str),.int 3),(("auto_flip":Str),.bool true),(("rounding":Str),.ref (2::0::q))]
theorem ae3 {r d:ay} (az:h r=some (.inst 1123 d)) (aE:h d=some (.attrs [])) (hd:¬(k::p)<:+d) (aQ:¬(k::p)<:+r) (fJ:r≠d):∃g,aJ (n+3) p 1092 (.ref r::[]) ⟨h,k⟩=some (.none,⟨g,k+1⟩)/\l5 (k::p) d h g/\g d=some (.attrs (Iq (k::p)))/\g (2::0::k::p)=some (.inst 525 (1::0::k::p))/\g (1::0::k::p)=some (.attrs (vB 64 0 32)):=
 w6 rfl (Q.YE _ _ _) az aE hd aQ fJ<|dh.c9 rfl rfl<|dh.c9 rfl rfl<|dh.c9 rfl rfl<|dh.c9 rfl rfl<|dh.c9 rfl rfl<|dh.c9 rfl rfl<|dh.c9 rfl rfl<|dh.c9 rfl rfl<|dh.c9 rfl rfl<|dh.c9 rfl rfl<|dh.c9 rfl rfl<|dh.c9 rfl rfl<|dh.c9 rfl rfl<|dh.c9 rfl rfl<|dh.c9 rfl rfl<|dh.c9 rfl rfl<|dh.c9 rfl rfl<|dh.gh (pX:=[0]) (E4:=[([2,0],.inst 525 (1::0::k::p)),([1,0],.attrs (vB 64 0 32))]) (λg c=>(aeY (n:=n)).elim λg m=>⟨g,m.1,λx bE=>m.2.1 x (bE 0 (.head _)),m.2.2.1,m.2.2.2,trivial⟩) rfl<|dh.c9 rfl rfl λg c=>⟨g,rfl,c.o,c.b,c.f.1,c.f.2.1⟩
noncomputable def WZ (q:ay) (xT bf:I):List (Str×I):=[(("state":Str),.ref (1::q)),(("stack":Str),.ref (4::q)),(("zones":Str),xT),(("cvt":Str),bf),(("storage":Str),.ref (6::q)),(("ppem":Str),.int 12),(("point_size":Str),.int 768),(("scale":Str),.tup [.int 1,.int 1])]
theorem ae5 {r d:ay} (aP:body (aJ (n+3)) (k::p) 1199 aa=(Q.J9 (aJ (n+3)) (k::p) (.ref r) (.ref xT) (.ref bf) (.int 64) (.int 12) (.int 768) (.tup [.int 1,.int 1])).bB) (az:h r=some (.inst 1230 d)) (aE:h d=some (.attrs [])) (hd:¬(k::p)<:+d) (aQ:¬(k::p)<:+r) (fJ:r≠d):∃g,aJ (n+4) p 1199 aa ⟨h,k⟩=some (.none,⟨g,k+1⟩)/\l5 (k::p) d h g/\g d=some (.attrs (WZ (k::p) (.ref xT) (.ref bf)))/\g (0::k::p)=some (.attrs (Iq (2::k::p)))/\g (1::k::p)=some (.inst 1123 (0::k::p))/\g (2::0::2::k::p)=some (.inst 525 (1::0::2::k::p))/\g (1::0::2::k::p)=some (.attrs (vB 64 0 32))/\g (3::k::p)=some (.attrs (Ip (5::k::p) 64))/\g (4::k::p)=some (.inst 1179 (3::k::p))/\g (0::5::k::p)=some (.list [])/\g (6::k::p)=some (.cB []):=by
 exact w6 rfl aP az aE hd aQ fJ<|dh.gh (pX:=[_,_,_]) (λg c=>MH (aH:=1123) (n:=n+3) [([0],.attrs (Iq (2::k::p))),([2,0,2],.inst 525 (1::0::2::k::p)),([1,0,2],.attrs (vB 64 0 32))] rfl λaz aE hd aQ fJ=>(ae3 (n:=n) az aE hd aQ fJ).elim λg m=>⟨g,m.1,m.2.1,λe=>⟨(cJ g e).symm.trans m.2.2.1,m.2.2.2.1,m.2.2.2.2,trivial⟩⟩) rfl<|dh.c9 rfl rfl<|dh.gh (pX:=[_,_,_]) (λg c=>MH (aH:=1179) (n:=n+3) [([3],.attrs (Ip (5::k::p) 64)),([0,5],.list [])] rfl λaz aE hd aQ fJ=>(ae2 (n:=n+2) az aE hd aQ fJ).elim λg m=>⟨g,m.1,m.2.1,λe=>⟨(cJ g e).symm.trans m.2.2.1,m.2.2.2,trivial⟩⟩) rfl<|dh.c9 rfl rfl<|dh.c9 rfl rfl<|dh.c9 rfl rfl<|dh.mk (gh:=.cB []) rfl (λg=>rfl) rfl<|dh.c9 rfl rfl<|dh.c9 rfl rfl<|dh.c9 rfl rfl<|dh.c9 rfl rfl λg c=>⟨g,rfl,c.o,c.b,c.f.2.2.2.2.2.1,c.f.2.2.2.2.1,c.f.2.2.2.2.2.2.1,c.f.2.2.2.2.2.2.2.1,c.f.2.2.1,c.f.2.1,c.f.2.2.2.1,c.f.1⟩
noncomputable def Ud (q w o f:ay):List (Str×I):=[(("place":Str),.ref (1::q)),(("work":Str),.ref w),(("ops":Str),.ref o),(("functions":Str),.ref f),(("most_steps":Str),.int 10000),(("steps":Str),.int 0)]
theorem aeZ {r d:ay} {code:List Nat} (aP:body (aJ (n+1)) (k::p) 241 aa=(Q.Km (aJ (n+1)) (k::p) (.ref r) (.bytes code) (.ref w) (.ref o) (.ref f) (.int 10000)).bB) (az:h r=some (.inst 279 d)) (aE:h d=some (.attrs [])) (hd:¬(k::p)<:+d) (aQ:¬(k::p)<:+r) (fJ:r≠d):∃g,aJ (n+2) p 241 aa ⟨h,k⟩=some (.none,⟨g,k+1⟩)/\l5 (k::p) d h g/\g d=some (.attrs (Ud (k::p) w o f))/\g (0::k::p)=some (.attrs (H7 (2::k::p) code 32))/\g (1::k::p)=some (.inst 173 (0::k::p))/\g (0::2::k::p)=some (.list []):=by
 exact w6 rfl aP az aE hd aQ fJ<|dh.gh (pX:=[_,_,_]) (λg c=>MH (aH:=173) (n:=n+1) [([0],.attrs (H7 (2::k::p) code 32)),([0,2],.list [])] rfl λaz aE hd aQ fJ=>(ae0 (n:=n) az aE hd aQ fJ).elim λg m=>⟨g,m.1,m.2.1,λe=>⟨(cJ g e).symm.trans m.2.2.1,m.2.2.2,trivial⟩⟩) rfl<|dh.c9 rfl rfl<|dh.c9 rfl rfl<|dh.c9 rfl rfl<|dh.c9 rfl rfl<|dh.c9 rfl rfl<|dh.c9 rfl rfl λg c=>⟨g,rfl,c.o,c.b,c.f.2.1,c.f.1,c.f.2.2.1⟩
end
noncomputable def jm (y:Nat) (p:ay) (l:List Nat):ay:=l.tail.reverse++(y+l.headD 0)::p
theorem H_ {l m:List Nat} (aI:l≠[]) (bM:m≠[]) (h:jm y p l=jm y p m):l=m:=by
 unfold jm at h
 have bH:(l.tail.reverse++[y+l.headD 0])++p=(m.tail.reverse++[y+m.headD 0])++p:=by simpa using h
 have aE:=EP bH
 have b8:=List.append_inj' aE rfl
 have cH:=b8.2
 simp only[List.cons.injEq,and_true]at cH
 cases l with
 |nil=>exact absurd rfl aI
 |cons a l=>
  induction m with
  |nil=>exact absurd rfl bM
  |cons b m=>
   have kB:l=m:=List.reverse_inj.mp b8.1
   have R3:y+a=y+b:=cH
   rw[kB,show a=b by omega]
theorem DG (y) (p) (l:List Nat):d_ p y (jm y p l):=⟨l.tail.reverse,y+l.headD 0,gQ _ _,rfl⟩
noncomputable def code:oj->List Nat
 | .work=>[9]| .ux=>[8]| .state=>[10,1]| .ru=>[10,0]| .stack=>[10,4]| .BA=>[10,3]| .Ew=>[2]| .Ex=>[1]| .cR=>[5]| .zQ=>[4]| .mT=>[16]| .Dp=>[15]| .place=>[17,1]| .DF=>[17,0]| .CL=>[13]| .CM=>[12]| .xM=>[7]
 | .EB=>[3,0,0]| .Ey=>[3,1,0]| .EC=>[3,2,0]| .Ez=>[3,3]| .EA=>[3,5]| .zl=>[6,0,0]| .cur=>[6,1,0]| .cD=>[6,2,0]| .ends=>[6,3]| .xg=>[6,5]| .nums=>[10,5,0]| .bf=>[]| .D9=>[10,6]| .calls=>[17,2,0]| .ops=>[11,1]| .CJ=>[14,0]| .CK=>[14,1]
 | .jF i=>[6,2,i+1]| .ex _=>[]
noncomputable def WQ:List Nat->Option oj
 |[9]=>some .work|[8]=>some .ux|[10,1]=>some .state|[10,0]=>some .ru|[10,4]=>some .stack|[10,3]=>some .BA|[2]=>some .Ew|[1]=>some .Ex|[5]=>some .cR|[4]=>some .zQ|[16]=>some .mT|[15]=>some .Dp|[17,1]=>some .place|[17,0]=>some .DF|[13]=>some .CL|[12]=>some .CM|[7]=>some .xM
 |[3,0,0]=>some .EB|[3,1,0]=>some .Ey|[3,2,0]=>some .EC|[3,3]=>some .Ez|[3,5]=>some .EA|[6,0,0]=>some .zl|[6,1,0]=>some .cur|[6,2,0]=>some .cD|[6,3]=>some .ends|[6,5]=>some .xg|[10,5,0]=>some .nums|[10,6]=>some .D9|[17,2,0]=>some .calls|[11,1]=>some .ops|[14,0]=>some .CJ|[14,1]=>some .CK
 |[6,2,i+1]=>some (.jF i)
 |_=>none
theorem zL (i):(code i=[]/\(i=.bf\/∃r,i=.ex r))\/(code i≠[]/\WQ (code i)=some i):=by
 rcases i with _|_<;>first|exact .inr ⟨rC _ _,rfl⟩|exact .inl ⟨rfl,.inl rfl⟩|exact .inl ⟨rfl,.inr ⟨_,rfl⟩⟩
open Classical in
noncomputable def nS (y:Nat) (p eU:ay) (h:bl):ay->Option cw:=λr=>if d_ p y r\/r=eU then none else h r
noncomputable def wI (y:Nat) (p eU:ay) (ex:ay->Option cw):oj->ay
 | .bf=>eU
 | .ex r=>if(ex r).isSome then r else[]
 |i=>jm y p (code i)
def CS (ex:ay->Option cw) (i:oj):Prop:=∀r,i=.ex r->ex r≠none
open Classical in
noncomputable def CN (f:oj->ay) (ex:ay->Option cw):ay->Option oj:=λr=>if h:∃i,CS ex i/\f i=r then some (choose h)else none
theorem wJ {p eU:ay} {ex:ay->Option cw} (h:code i≠[]):wI y p eU ex i=jm y p (code i):=by
 rcases i with _|_<;>first|rfl|exact absurd rfl h
theorem ade {y:Nat} {p eU:ay} {ex:ay->Option cw} (o4:¬d_ p y eU) (yG:∀r,ex r≠none->¬d_ p y r/\r≠eU) (aj:CS ex i) (aW:CS ex j) (e:wI y p eU ex i=wI y p eU ex j):i=j:=by
 have AE:∀r,CS ex (.ex r)->wI y p eU ex (.ex r)=r:=λr h=>by
  have:(ex r).isSome=true:=Option.isSome_iff_ne_none.mpr (h r rfl)
  show(if(ex r).isSome then r else[])=r
  rw[bT this]
 rcases zL i with⟨_,rfl|⟨r,rfl⟩⟩|⟨fQ,iP⟩
 .rcases zL j with⟨_,rfl|⟨s,rfl⟩⟩|⟨je,tT⟩
  .rfl
  .rw[AE s aW]at e
   exact absurd e.symm (yG s (aW s rfl)).2
  .rw[wJ je]at e
   exact absurd (show d_ p y eU from(show eU=_ from e)▸DG y p _) o4
 .rcases zL j with⟨_,rfl|⟨s,rfl⟩⟩|⟨je,tT⟩
  .rw[AE r aj]at e
   exact absurd e (yG r (aj r rfl)).2
  .rw[AE r aj,AE s aW]at e
   rw[e]
  .rw[AE r aj,wJ je]at e
   exact absurd (e▸DG y p _) (yG r (aj r rfl)).1
 .rcases zL j with⟨_,rfl|⟨s,rfl⟩⟩|⟨je,tT⟩
  .rw[wJ fQ]at e
   exact absurd (show d_ p y eU from(show _=eU from e)▸DG y p _) o4
  .rw[wJ fQ,AE s aW]at e
   exact absurd (e▸DG y p _) (yG s (aW s rfl)).1
  .rw[wJ fQ,wJ je]at e
   have:=H_ fQ je e
   rw[this,tT]at iP
   exact(iH iP).symm
set_option tactic.hygienic true in
theorem Gi (y) (p eU) (h:bl):∀r,nS y p eU h r≠none->¬d_ p y r/\r≠eU:=λr aQ=>by
 unfold nS at aQ
 split at aQ
 .exact absurd rfl aQ
 .rename_i q;exact⟨λz=>q (.inl z),λz=>q (.inr z)⟩
set_option tactic.hygienic true in

noncomputable def rW (y:Nat) (p eU:ay) (h:bl) (o4:¬d_ p y eU):fy where
 f:=wI y p eU (nS y p eU h)
 g:=CN (wI y p eU (nS y p eU h)) (nS y p eU h)
 ex:=nS y p eU h
 CQ i aj:=by
  have:∃j,CS (nS y p eU h) j/\wI y p eU (nS y p eU h) j=wI y p eU (nS y p eU h) i:=⟨i,aj,rfl⟩
  unfold CN
  rw[dif_pos this]
  exact cJ some (ade o4 (Gi y p eU h) (BW this).1 aj (BW this).2)
 oY r i e:=by
  unfold CN at e
  split at e
  .rename_i q
   have:=(BW q).2
   rw[iH e]at this
   exact this.symm
  .rcases e with _|_
theorem ahX {y:Nat} {p eU:ay} {h:bl} {o4:¬d_ p y eU} {r:ay} (aQ:∀i,code i≠[]->r≠jm y p (code i)) (bD:d_ p y r):(rW y p eU h o4).g r=none:=by
 show CN _ _ r=none
 unfold CN
 rw[dif_neg]
 rintro ⟨i,CR,e⟩
 rcases zL i with⟨_,rfl|⟨s,rfl⟩⟩|⟨fQ,iP⟩
 .exact o4 (show d_ p y eU from(show eU=r from e)▸bD)
 .have:(nS y p eU h s).isSome=true:=Option.isSome_iff_ne_none.mpr (CR s rfl)
  have ff:s=r:=by
   have:(if(nS y p eU h s).isSome then s else[])=r:=e
   rwa [bT ‹_›]at this
  exact(Gi y p eU h s (CR s rfl)).1 (ff▸bD)
 .rw[wJ fQ]at e
  exact aQ i fQ e.symm
theorem Iw {p r:ay} (h:(j::p)<:+r) (aW:y<=j):d_ p y r:=let⟨t,e⟩:=h;⟨t,j,aW,e.symm⟩
set_option tactic.hygienic true in

theorem ahW {p eU:ay} {h:bl} {o4:¬d_ p y eU} (aW:y+18<=j):c4 (rW y p eU h o4) (j::p):=λi z=>by
 rcases zL i with⟨_,rfl|⟨s,rfl⟩⟩|⟨fQ,iP⟩
 .exact o4 (Iw (show(j::p)<:+eU from z) (by omega))
 .have nJ:(j::p)<:+(if(nS y p eU h s).isSome then s else[]):=z
  split at nJ
  .rename_i q
   exact(Gi y p eU h s (Option.isSome_iff_ne_none.mp q)).1 (Iw nJ (by omega))
  .simp at nJ
 .have nJ:(j::p)<:+jm y p (code i):=by rw[<-wJ fQ];exact z
  unfold jm at nJ
  have aN:(code i).headD 0<=17:=by rcases i with _|_<;>exact lG rfl
  exact s7 _ (by omega) nJ
theorem aie {N:fy} {B:fF} (dj:∀i o,cont N B i=some o->h (N.f i)=some o):aq N h B=h:=by
 funext r
 unfold aq
 cases e:N.g r with
 |none=>rfl
 |some i=>
  dsimp only
  cases bK:cont N B i with
  |none=>rfl
  |some o=>rw[N.oY _ _ e,dj i o bK]
theorem ajT {N:gg} {B:eT} (dj:∀i o,oF N B i=some o->h (N.f i)=some o):aF N h B=h:=by
 funext r
 unfold aF
 cases e:N.g r with
 |none=>rfl
 |some i=>
  dsimp only
  cases bK:oF N B i with
  |none=>rfl
  |some o=>rw[N.oY _ _ e,dj i o bK]
section
variable {k x y:Nat}
theorem YS (L) (p) (a b):body L p 1248 [a,b]=(Q.Fu L p a b (.tup []) .none).bB:=(show body L p 1248 [a,b]=body L p 1248 [a,b,.tup [],.none] by kernel_rfl).trans (Q.PG ..)
theorem YT (L) (p) (a b c):body L p 1248 [a,b,c]=(Q.Fu L p a b c .none).bB:=(show body L p 1248 [a,b,c]=body L p 1248 [a,b,c,.none] by kernel_rfl).trans (Q.PG ..)
theorem YM (L) (p) (a b c):body L p 1199 [a,b,c]=(Q.J9 L p a b c (.int 64) (.int 12) (.int 768) (.tup [.int 1,.int 1])).bB:=(show body L p 1199 [a,b,c]=body L p 1199 [a,b,c,.int 64,.int 12,.int 768,.tup [.int 1,.int 1]] by kernel_rfl).trans (Q.YL ..)
theorem Zb (L) (p) (a b c d e):body L p 241 [a,b,c,d,e]=(Q.Km L p a b c d e (.int 10000)).bB:=(show body L p 241 [a,b,c,d,e]=body L p 241 [a,b,c,d,e,.int 10000] by kernel_rfl).trans (Q.Za ..)
theorem Ow (h:Nat.beq a b=false):y+a≠y+b:=λz=>by
 have e:a=b:=by omega
 rw[e,Nat.beq_refl]at h;cases h
theorem yp (e:a≠b):a::p≠b::p:=λz=>e (vS z).1
theorem UN (e:c≠k):¬(k::p)<:+(a::b::d::c::p):=s7 [a,b,d] e
theorem lz {r:ay} (h:¬d_ p y r) (aW:y<=j):¬(j::p)<:+r:=λz=>h (Iw z aW)
theorem HD {r:ay} (h:¬d_ p y r) (aW:y<=j):r≠j::p:=λz=>lz h aW (z▸List.suffix_refl _)
theorem TH {q r:ay} (aQ:h r=some (.list aa)) (hz:aa.length<=100000):jk q "list" [.ref r] ⟨h,x⟩=some (.ref (x::q),⟨h.set (x::q) (.list aa),x+1⟩):=by
 show Y (obj r) _ _=_
 simp only[Y,obj,jb,aQ]
 rw[bT (iU hz)]
 rfl
theorem ag8 (q) (g) (y):jk q "list" [.tup []] ⟨g,y⟩=some (.ref (y::q),⟨g.set (y::q) (.list []),y+1⟩):=rfl
def Pp (g:bl) (x:Nat) (p:ay) (av:List (Int×Int)) (ao:List I):Prop:=Pq ((x+2)::p) (x::p) av ao g
theorem aim (cA:h pr=some (.list [])) (kD:pr≠x::p) (mW:pr≠(x+1)::p) (Du:¬((x+2)::p)<:+pr):∃g,fz (aJ (n+4)) p (.at 1272) [.ref pr] ⟨h,x⟩=some (.ref ((x+1)::p),⟨g,x+2+1⟩)/\xZ p x h g/\g ((x+1)::p)=some (.inst 1272 (x::p))/\Pp g x p [] []:=
 zd rfl (by
  have dj:=zc (h:=h) (q:=p) (x:=x) 1272
  exact Su (YS ..) dj.1 dj.2.1 dj.2.2.1 dj.2.2.2.1 dj.2.2.2.2 (by rw[dP kD,dP mW];exact cA) Du kD (by simp) (λg y U=>ag8 ..) λU=>rfl)
theorem ain {pr jO:ay} (hz:av.length<=100) (Sp:ao.length<=100) (cA:h pr=some (.list (av.map e9))) (kD:pr≠x::p) (mW:pr≠(x+1)::p) (Du:¬((x+2)::p)<:+pr) (cK:h jO=some (.list ao)) (jj:jO≠x::p) (iB:jO≠(x+1)::p) (sV:¬((x+2)::p)<:+jO):
  ∃g,fz (aJ (n+4)) p (.at 1272) [.ref pr,.ref jO] ⟨h,x⟩=some (.ref ((x+1)::p),⟨g,x+2+1⟩)/\xZ p x h g/\g ((x+1)::p)=some (.inst 1272 (x::p))/\Pp g x p av ao:=
 zd rfl (by
  have dj:=zc (h:=h) (q:=p) (x:=x) 1272
  exact Su (YT ..) dj.1 dj.2.1 dj.2.2.1 dj.2.2.2.1 dj.2.2.2.2 (by rw[dP kD,dP mW];exact cA) Du kD hz (λg y o=>TH ((o _ jj sV).trans (by rw[dP jj,dP iB];exact cK)) (by omega)) λU=>rfl)
def XV (g:bl) (x:Nat) (p:ay) (xT eU:I):Prop:=g (x::p)=some (.attrs (WZ ((x+2)::p) xT eU))/\g (0::(x+2)::p)=some (.attrs (Iq (2::(x+2)::p)))/\g (1::(x+2)::p)=some (.inst 1123 (0::(x+2)::p))/\g (2::0::2::(x+2)::p)=some (.inst 525 (1::0::2::(x+2)::p))/\g (1::0::2::(x+2)::p)=some (.attrs (vB 64 0 32))/\
 g (3::(x+2)::p)=some (.attrs (Ip (5::(x+2)::p) 64))/\g (4::(x+2)::p)=some (.inst 1179 (3::(x+2)::p))/\g (0::5::(x+2)::p)=some (.list [])/\g (6::(x+2)::p)=some (.cB [])
theorem ail {xT eU:ay}:∃g,fz (aJ (n+4)) p (.at 1230) [.ref xT,.ref eU] ⟨h,x⟩=some (.ref ((x+1)::p),⟨g,x+2+1⟩)/\xZ p x h g/\g ((x+1)::p)=some (.inst 1230 (x::p))/\XV g x p (.ref xT) (.ref eU):=
 zd rfl (by
  have dj:=zc (h:=h) (q:=p) (x:=x) 1230
  exact ae5 (YM ..) dj.1 dj.2.1 dj.2.2.1 dj.2.2.2.1 dj.2.2.2.2)
theorem aij:∃g,fz (aJ (n+4)) p (.at 103) [] ⟨h,x⟩=some (.ref ((x+1)::p),⟨g,x+2+1⟩)/\xZ p x h g/\g ((x+1)::p)=some (.inst 103 (x::p))/\(g (x::p)=some (.attrs (RQ ((x+2)::p)))/\g (0::(x+2)::p)=some (.cB [])/\g (1::(x+2)::p)=some (.cB [])):=
 zd rfl (by
  have dj:=zc (h:=h) (q:=p) (x:=x) 103
  exact aeX dj.1 dj.2.1 dj.2.2.1 dj.2.2.2.1 dj.2.2.2.2)
def XM (g:bl) (x:Nat) (p:ay) (code:List Nat) (w o f:ay):Prop:=g (x::p)=some (.attrs (Ud ((x+2)::p) w o f))/\g (0::(x+2)::p)=some (.attrs (H7 (2::(x+2)::p) code 32))/\g (1::(x+2)::p)=some (.inst 173 (0::(x+2)::p))/\g (0::2::(x+2)::p)=some (.list [])
theorem aik {code:List Nat}:∃g,fz (aJ (n+4)) p (.at 279) [.bytes code,.ref w,.ref o,.ref f] ⟨h,x⟩=some (.ref ((x+1)::p),⟨g,x+2+1⟩)/\xZ p x h g/\g ((x+1)::p)=some (.inst 279 (x::p))/\XM g x p code w o f:=
 zd rfl (by
  have dj:=zc (h:=h) (q:=p) (x:=x) 279
  exact aeZ (Zb ..) dj.1 dj.2.1 dj.2.2.1 dj.2.2.2.1 dj.2.2.2.2)
noncomputable def xA (y:Nat) (p:ay) (av:List (Int×Int)) (ao:List Nat) (bf:List Int) (aH:List Nat):fF where
 t:={now:=av,cF:=av,cD:=List.replicate av.length (false,false),bf:=bf,told:=[],cI:=0,cT:=0,dO:=0,round:=24,cL:=false}
 loop:=1
 gc:=2::0::2::(y+10)::p
 pc:=0
 steps:=0
 code:=aH
 ends:=ao.map cY
 xg:=List.replicate av.length (.bool true)
theorem U0 (o:dz ((y+c)::p) h g) (l) (aI:l.headD 0<c):g (jm y p l)=h (jm y p l):=o _ (s7 _ (qG (rB aI y)))
theorem HU (o:xZ p (y+c) h g) (l) (aI:l.headD 0<c):g (jm y p l)=h (jm y p l):=o _ (s7 _ (qG (rB aI y))) (s7 _ (qG (I_ (rB aI y)))) (s7 _ (qG (I_ (I_ (rB aI y)))))
theorem ah1 {pr jO eU:ay} {bf:List Int} (aH) (hz:av.length<=100) (Sp:ao.length<=100) (cA:h pr=some (.list (av.map e9))) (q1:¬d_ p y pr) (cK:h jO=some (.list (ao.map bZ))) (GA:¬d_ p y jO) (aN:h eU=some (.list (bf.map I.int))) (o4:¬d_ p y eU) {Q:Prop}
  (r:∀gx iX jf kN tY wN AJ mq:bl,(iK p [] ⟨h,y⟩=some (.ref (y::p),⟨gx,y+1⟩))->fz (aJ (n+4)) p (.at 1272) [.ref (y::p)] ⟨gx,y+1⟩=some (.ref ((y+1+1)::p),⟨iX,y+1+2+1⟩)->fz (aJ (n+4)) p (.at 1272) [.ref pr,.ref jO] ⟨iX,y+1+2+1⟩=some (.ref ((y+1+2+1+1)::p),⟨jf,y+1+2+1+2+1⟩)->
   iK p [.ref ((y+1+1)::p),.ref ((y+1+2+1+1)::p)] ⟨jf,y+1+2+1+2+1⟩=some (.ref ((y+1+2+1+2+1)::p),⟨kN,y+1+2+1+2+1+1⟩)->fz (aJ (n+4)) p (.at 1230) [.ref ((y+1+2+1+2+1)::p),.ref eU] ⟨kN,y+1+2+1+2+1+1⟩=some (.ref ((y+1+2+1+2+1+1+1)::p),⟨tY,y+1+2+1+2+1+1+2+1⟩)->aJ (n+4) p 1078 [] ⟨tY,y+1+2+1+2+1+1+2+1⟩=some (.ref (1::(y+1+2+1+2+1+1+2+1)::p),⟨wN,y+1+2+1+2+1+1+2+1+1⟩)->
   fz (aJ (n+4)) p (.at 103) [] ⟨wN,y+1+2+1+2+1+1+2+1+1⟩=some (.ref ((y+1+2+1+2+1+1+2+1+1+1)::p),⟨AJ,y+1+2+1+2+1+1+2+1+1+2+1⟩)->fz (aJ (n+4)) p (.at 279) [.bytes aH,.ref ((y+1+2+1+2+1+1+1)::p),.ref (1::(y+1+2+1+2+1+1+2+1)::p),.ref ((y+1+2+1+2+1+1+2+1+1+1)::p)] ⟨AJ,y+1+2+1+2+1+1+2+1+1+2+1⟩=some (.ref ((y+1+2+1+2+1+1+2+1+1+2+1+1)::p),⟨mq,y+1+2+1+2+1+1+2+1+1+2+1+2+1⟩)->
   (∀x,¬d_ p y x->mq x=h x)->(∀i o,cont (rW y p eU h o4) (xA y p av ao bf aH) i=some o->mq ((rW y p eU h o4).f i)=some o)->mq (2::0::2::(y+10)::p)=some (.inst 525 (1::0::2::(y+10)::p))->mq (1::0::2::(y+10)::p)=some (.attrs (vB 64 0 32))->Q):Q:=by
 have bk:=ag1 p h y
 generalize qX:h.set (y::p) (.list [])=gx at bk
 have nt:gx (y::p)=some (.list []):=by rw[<-qX];exact cP
 have lA:dz (y::p) h gx:=by rw[<-qX];exact qu [] _
 have XB:∀x,¬d_ p y x->gx x=h x:=λx bE=>lA x (lz bE (fu y))
 obtain⟨iX,bK,kR,iW,Ah⟩:=aim nt (yp (Ow (a:=0) rfl)) (yp (Ow (a:=0) (b:=2) rfl)) (zg (Ow (a:=0) (b:=3) rfl))
 have Ae:∀x,¬d_ p y x->iX x=h x:=λx bE=>(kR x (lz bE (gQ y 1)) (lz bE (gQ y 2)) (lz bE (gQ y 3))).trans (XB x bE)
 obtain⟨jf,gJ,qq,pM,yc⟩:=ain hz (by simpa using Sp) ((Ae _ q1).trans cA) (HD q1 (gQ y 4)) (HD q1 (gQ y 5)) (lz q1 (gQ y 6)) ((Ae _ GA).trans cK) (HD GA (gQ y 4)) (HD GA (gQ y 5)) (lz GA (gQ y 6))
 have XD:∀x,¬d_ p y x->jf x=h x:=λx bE=>(qq x (lz bE (gQ y 4)) (lz bE (gQ y 5)) (lz bE (gQ y 6))).trans (Ae x bE)
 have nv:iK p [.ref ((y+1+1)::p),.ref ((y+1+2+1+1)::p)] ⟨jf,y+1+2+1+2+1⟩=some (.ref ((y+1+2+1+2+1)::p),⟨_,y+1+2+1+2+1+1⟩):=rfl
 generalize lu:jf.set ((y+1+2+1+2+1)::p) _=kN at nv
 have sE:kN ((y+7)::p)=some (.list [.ref ((y+2)::p),.ref ((y+5)::p)]):=by rw[<-lu];exact cP
 have qs:dz ((y+7)::p) jf kN:=by rw[<-lu];exact qu [] _
 have XE:∀x,¬d_ p y x->kN x=h x:=λx bE=>(qs x (lz bE (gQ y 7))).trans (XD x bE)
 obtain⟨tY,sI,zh,Cm,uM⟩:=ail
 have E6:∀x,¬d_ p y x->tY x=h x:=λx bE=>(zh x (lz bE (gQ y 8)) (lz bE (gQ y 9)) (lz bE (gQ y 10))).trans (XE x bE)
 obtain⟨wN,ab2,yd,UP⟩:∃bH,aJ (n+4) p 1078 [] ⟨tY,y+1+2+1+2+1+1+2+1⟩=some (.ref (1::(y+1+2+1+2+1+1+2+1)::p),⟨bH,y+1+2+1+2+1+1+2+1+1⟩)/\bH (1::(y+1+2+1+2+1+1+2+1)::p)=some (.cB q_)/\dz ((y+1+2+1+2+1+1+2+1)::p) tY bH:=afA
 have E7:∀x,¬d_ p y x->wN x=h x:=λx bE=>(UP x (lz bE (gQ y 11))).trans (E6 x bE)
 obtain⟨AJ,tW,UQ,XY,Yy,aaz,F2⟩:=aij
 have XF:∀x,¬d_ p y x->AJ x=h x:=λx bE=>(UQ x (lz bE (gQ y 12)) (lz bE (gQ y 13)) (lz bE (gQ y 14))).trans (E7 x bE)
 obtain⟨mq,ab3,UR,XZ,Yz,aaA,F3,dc⟩:=aik (o:=1::(y+1+2+1+2+1+1+2+1)::p) (f:=(y+1+2+1+2+1+1+2+1+1+1)::p)
 have Af:∀x,¬d_ p y x->mq x=h x:=λx bE=>(UR x (lz bE (gQ y 15)) (lz bE (gQ y 16)) (lz bE (gQ y 17))).trans (XF x bE)
 have Ce:∀l:List Nat,l.headD 0<15->mq (jm y p l)=AJ (jm y p l):=HU (c:=15) UR
 have Pa:∀l:List Nat,l.headD 0<12->mq (jm y p l)=wN (jm y p l):=λl h=>(Ce l (fV h (by decide))).trans (HU (c:=12) UQ l h)
 have sy:∀l:List Nat,l.headD 0<11->mq (jm y p l)=tY (jm y p l):=λl h=>(Pa l (fV h (by decide))).trans (U0 (c:=11) UP l h)
 have O_:∀l:List Nat,l.headD 0<8->mq (jm y p l)=kN (jm y p l):=λl h=>(sy l (fV h (by decide))).trans (HU (c:=8) zh l h)
 have uK:∀l:List Nat,l.headD 0<7->mq (jm y p l)=jf (jm y p l):=λl h=>(O_ l (fV h (by decide))).trans (U0 (c:=7) qs l h)
 have qQ:∀l:List Nat,l.headD 0<4->mq (jm y p l)=iX (jm y p l):=λl h=>(uK l (fV h (by decide))).trans (HU (c:=4) qq l h)
 refine r gx iX jf kN tY wN AJ mq bk bK gJ nv sI ab2 tW ab3 Af (λi o aj=>?_) ((sy [10,2,0,2] (by decide)).trans uM.2.2.2.1) ((sy [10,2,0,1] (by decide)).trans uM.2.2.2.2.1)
 induction i with
 |Ew=>exact((qQ [2] (by decide)).trans iW).trans aj
 |Ex=>exact((qQ [1] (by decide)).trans Ah.1).trans aj
 |EB=>exact((qQ [3,0,0] (by decide)).trans Ah.2.1).trans aj
 |Ey=>exact((qQ [3,1,0] (by decide)).trans Ah.2.2.1).trans aj
 |EC=>exact((qQ [3,2,0] (by decide)).trans Ah.2.2.2.1).trans aj
 |Ez=>exact((qQ [3,3] (by decide)).trans Ah.2.2.2.2.2.1).trans aj
 |EA=>exact((qQ [3,5] (by decide)).trans Ah.2.2.2.2.2.2).trans aj
 |cR=>exact((uK [5] (by decide)).trans pM).trans aj
 |zQ=>exact((uK [4] (by decide)).trans yc.1).trans aj
 |zl=>exact((uK [6,0,0] (by decide)).trans yc.2.1).trans aj
 |cur=>exact((uK [6,1,0] (by decide)).trans yc.2.2.1).trans aj
 |xg=>exact((uK [6,5] (by decide)).trans yc.2.2.2.2.2.2).trans aj
 |xM=>exact((O_ [7] (by decide)).trans sE).trans aj
 |work=>exact((sy [9] (by decide)).trans Cm).trans aj
 |ux=>exact((sy [8] (by decide)).trans uM.1).trans aj
 |ru=>exact((sy [10,0] (by decide)).trans uM.2.1).trans aj
 |state=>exact((sy [10,1] (by decide)).trans uM.2.2.1).trans aj
 |BA=>exact((sy [10,3] (by decide)).trans uM.2.2.2.2.2.1).trans aj
 |stack=>exact((sy [10,4] (by decide)).trans uM.2.2.2.2.2.2.1).trans aj
 |nums=>exact((sy [10,5,0] (by decide)).trans uM.2.2.2.2.2.2.2.1).trans aj
 |D9=>exact((sy [10,6] (by decide)).trans uM.2.2.2.2.2.2.2.2).trans aj
 |ops=>exact((Pa [11,1] (by decide)).trans yd).trans aj
 |CL=>exact((Ce [13] (by decide)).trans XY).trans aj
 |CM=>exact((Ce [12] (by decide)).trans Yy).trans aj
 |CJ=>exact((Ce [14,0] (by decide)).trans aaz).trans aj
 |CK=>exact((Ce [14,1] (by decide)).trans F2).trans aj
 |mT=>exact XZ.trans aj
 |Dp=>exact Yz.trans aj
 |DF=>exact aaA.trans aj
 |place=>exact F3.trans aj
 |calls=>exact dc.trans aj
 |cD=>exact((uK [6,2,0] (by decide)).trans (yc.2.2.2.1.trans (cJ (λn=>some (cw.list ((List.range n).map λi=>I.ref ((i+1)::2::(y+6)::p)))) (List.length_replicate ..).symm))).trans aj
 |ends=>exact((uK [6,3] (by decide)).trans (yc.2.2.2.2.2.1.trans (cJ (λl=>some (cw.list l)) (Om ao)))).trans aj
 |bf=>exact((Af _ o4).trans aN).trans aj
 |jF i=>
  have aj:(match (List.replicate av.length (false,false))[i]? with
   |some q=>some (cw.list [.bool q.1,.bool q.2])
   |none=>none)=some o:=aj
  by_cases aI:i<av.length
  .rw[ES,bT aI]at aj
   exact((uK [6,2,i+1] (EZ (by decide:6<7) rfl)).trans (yc.2.2.2.2.1 i aI)).trans aj
  .rw[ES,bX aI]at aj
   cases aj
 |ex r=>
  have aj:nS y p eU h r=some o:=aj
  have fJ:nS y p eU h r≠none:=by rw[aj];exact I6 _
  obtain⟨kD,mW⟩:=Gi y p eU h r fJ
  have e:(rW y p eU h o4).f (.ex r)=r:=by
   show(if(nS y p eU h r).isSome then r else[])=r
   rw[bT (by rw[aj];rfl)]
  rw[e,Af r kD,<-aj]
  unfold nS
  rw[bX (λz=>z.elim kD mW)]
end
section
theorem RO {r:ay} (aQ:h r=some (.k4 cN)) (aI:sJ cN=some l) (aW:j<l.length) (hz:l.length<=63):item (.ref r) (.int (j:Nat)) ⟨h,x⟩=some (.int (l.getD j 0),⟨h,x⟩):=by
 have e:vg ((j:Nat):Int)=true:=(Hj _).mpr ⟨by omega,by omega⟩
 show Y (obj r) _ _=_
 simp only[Y,obj,AR,aQ]
 rw[e,bT rfl]
 simp only[aI,gU,ai,Y,Int.toNat_natCast,h7 aW,kU,Option.getD_some]
theorem adI {q r:ay} (aQ:h r=some (.k4 cN)) (aI:sJ cN=some l) (hz:l.length<=63):builtin q "len" [.ref r] ⟨h,x⟩=some (.int (l.length:Nat),⟨h,x⟩):=by
 show Y (obj r) _ _=_
 simp only[Y,obj,Md,aQ,aI,gU,ai]
 rw[bT (by rw[lH];omega)]
 rfl
noncomputable def DS (r:ay) (cell oR zb au:I):aL:=[(("script":Str),.ref r),(("cell":Str),cell),(("big":Str),oR),(("mixed":Str),zb),(("k":Str),au)]
theorem Vl (q):fk q .Pow (.int 10) (.int 18)=ai (.int 1000000000000000000):=by
 show(if decide ((0:Int)<=18)&&decide ((Builtin.Int.intBits 10:Int)*18<=2^27)then ai (I.int ((10:Int)^(18:Int).toNat))else no)=_
 rw[bT (by decide)]
 rfl
theorem ak2 {r:ay} (cell) (oR zb) (w):∃a b,Dh (aJ n) (k::p) (DS r cell (.int oR) (.int zb) w) ⟨h,0⟩=some (.ref (0::k::p),⟨h.set (0::k::p) (.list [.int a,.int b]),1⟩):=by
 unfold DS
 by_cases aP:oR<1000000000000000000
 .exact⟨0,zb,by simp only[↓je,↓Au,↓kr,↓ku,↓F0,↓ak,↓bP,↓e_,↓aU,↓b_,↓b7,↓dN,TJ,Fw,Vl,aP,qH,↓reduceIte,MG]⟩
 .exact⟨oR,zb,by simp only[↓je,↓Au,↓kr,↓ku,↓F0,↓ak,↓bP,↓e_,↓aU,↓b_,↓b7,↓dN,TJ,Fw,Vl,aP,vU,nL,↓reduceIte,MG]⟩
theorem ak3 {r:ay} (aQ:h r=some (.k4 cN)) (aI:sJ cN=some l) (hz:l.length<=63) (cell) (oR) (Uw):
  ∃a b,gP (λJ au=>c5 (aJ n) 93 (aA 173).sc (k::p) G2 J au) (λv J au=>asg (aJ n) 93 (aA 173).sc (k::p) 3 Hl v J au) (.eo (0:Nat) ((if 40<l.length then 40 else l.length:Nat))) (Dh (aJ n) (k::p)) 1000 0 (DS r cell (.int oR) (.int Uw) .undef) ⟨h,0⟩=
   some (.ref (0::k::p),⟨h.set (0::k::p) (.list [.int a,.int b]),1⟩):=by
 have hd:(if 40<l.length then 40 else l.length)<=l.length/\(if 40<l.length then 40 else l.length)<=40:=by split<;>omega
 generalize (if 40<l.length then 40 else l.length)=d at hd
 have jj:∀{q C} {x:Int},fk q .Mult (.int x) (.int 48271) C=some (.int (x*48271),C):=Q.o_ (sZ (by decide) (by decide))
 have iB:∀{q C} {x:Int},fk q .Mult (.int 31) (.int x) C=some (.int (31*x),C):=Q.o_ (sY (by decide) (by decide))
 have sV:∀{q C} {x:Int},fk q .Mod (.int x) (.int 2147483647) C=some (.int (x.fmod 2147483647),C):=Q.n4 (by decide)
 exact(Q.fold (b9:=Int) (uE:=Unit) (body:=λJ au=>c5 (aJ n) 93 (aA 173).sc (k::p) G2 J au) (gr:=λv J au=>asg (aJ n) 93 (aA 173).sc (k::p) 3 Hl v J au) (K:=Dh (aJ n) (k::p)) (it:=.eo (0:Nat) (d:Nat)) (R:=λw v=>DS r cell (.int oR) (.int v) w) (af:=λU U=>⟨h,0⟩) (f:=λU U=>()) (cZ:=λU=>True) (c:=0) (aC:=List.range d) (λU U j=>DU j) (λU U U U=>ahy ..)
  (λv U j bq au U aW=>⟨_,Q.iF (Q.agE ..)<|Q.bx jj<|Q.bx (RO aQ aI (lW (List.mem_range.mp aW) hd.1) hz)<|Q.bx sV<|Q.bx iB<|Q.bx sV<|Q.fin⟩)
  (λU U U U=>trivial) d () 0 .undef Uw 1000 0 trivial ((mH _).trans List.length_range.symm) (dg hd.2 (by decide))).elim λw z=>z.elim λzb z=>(ak2 cell oR zb w).elim λa y=>y.elim λb y=>⟨a,b,z.trans y⟩
theorem aga {r:ay} (aQ:h r=some (.k4 cN)) (aI:sJ cN=some l) (hz:l.length<=63):
  ∃a b,aJ (n+1) p 1283 [.ref r] ⟨h,k⟩=some (.ref (0::k::p),⟨h.set (0::k::p) (.list [.int a,.int b]),k+1⟩):=by
 have n3:=λq x=>adI (x:=x) (q:=q) aQ aI hz
 have sW:∀q C,builtin q "min" [.int (l.length:Nat),.int 40] C=some (.int ((if 40<l.length then 40 else l.length:Nat):Int),C):=λq C=>by
  show some (I.int (if(40:Int)<(l.length:Nat)then 40 else(l.length:Nat)),C)=_
  by_cases c:40<l.length
  .rw[bT (by omega),bT c];rfl
  .rw[bX (by omega),bX c]
 have qU:(if 40<l.length then 40 else l.length)<1000:=by split<;>omega
 have zv:=λq C=>qy q (if 40<l.length then 40 else l.length) qU C
 have SI:=λC=>sS (if 40<l.length then 40 else l.length) qU C
 have ic:∀q x,fk q .Mod (.int x) (.int 2147483629)=ai (.int (x.fmod 2147483629)):=λq x=>J7 (by decide)
 have We:∀cell oR,H cell=ai cell->∃a b,Fv (aJ n) (k::p) (.ref r) cell (.int oR) .undef .undef ⟨h,0⟩=some (.ref (0::k::p),⟨h.set (0::k::p) (.list [.int a,.int b]),1⟩):=λcell oR aN=>by
  obtain⟨a,b,e⟩:=ak3 (n:=n) (p:=p) (k:=k) aQ aI hz cell oR (oR.fmod 2147483629)
  refine⟨a,b,?_⟩
  unfold DS at e
  simp only[↓je,↓qi,↓kr,↓ku,↓tU,↓CC,↓ak,↓bh,↓bP,↓aU,↓ck,↓jL,↓dN,Fv,ic,n3,sW,zv,↓SI]
  exact e
 have Wd:∀c:Int,∃a b,Cq (aJ n) (k::p) (.ref r) (.int c) .undef .undef .undef ⟨h,0⟩=some (.ref (0::k::p),⟨h.set (0::k::p) (.list [.int a,.int b]),1⟩):=λc=>by
  by_cases aN:c<0
  .obtain⟨a,b,e⟩:=We (.int c) (0 -c -1) rfl
   exact⟨a,b,by simp only[↓je,↓KI,↓Au,↓kr,↓ku,↓ak,↓aU,↓b_,↓b7,Cq,aN,qH,↓reduceIte,e]⟩
  .obtain⟨a,b,e⟩:=We (.int c) c rfl
   exact⟨a,b,by simp only[↓je,↓Au,↓kr,↓ku,↓ak,↓b_,↓b7,Cq,aN,vU,nL,↓reduceIte,e]⟩
 by_cases cj:0<l.length
 .obtain⟨a,b,e⟩:=Wd (l.getD 0 0)
  have fS:=λx=>RO (x:=x) aQ aI cj hz
  have g:(0:Int)<(l.length:Nat):=by omega
  refine⟨a,b,?_⟩
  rw[vc rfl,PI]
  have aeV:∀x,item (.ref r) (.int 0) ⟨h,x⟩=some (.int (l.getD 0 0),⟨h,x⟩):=fS
  simp only[↓qi,↓KL,↓kr,↓ku,↓tU,↓ak,↓bh,↓b_,↓aV,↓ck,↓b7,↓dN,J_,n3,g,qH,↓reduceIte,aeV,e]
 .obtain⟨a,b,e⟩:=Wd 0
  have g:¬(0:Int)<(l.length:Nat):=by omega
  refine⟨a,b,?_⟩
  rw[vc rfl,PI]
  simp only[↓qi,↓KL,↓kr,↓ku,↓tU,↓ak,↓bh,↓b_,↓ck,↓b7,↓dN,J_,n3,g,vU,nL,↓reduceIte,e]
theorem af8 {src r:ay} (aR:h src=some (.list [.int a,.int b])) (bG:¬(k::p)<:+src) (aQ:h r=some (.list aa)) (fJ:r≠src) (cj:0<aa.length) (az:aa.length<1000):
  ∃v dB fM,aJ (n+2) p 1297 [.ref src,.ref r] ⟨h,k⟩=some (v,⟨h.set src (.list [.int dB,.int fM]),k+1⟩)/\v∈aa:=by
 refine iu λaH ez=>?_
 have n3:∀x,builtin (k::p) "len" [.ref r] ⟨h,x⟩=some (.int (aa.length:Nat),⟨h,x⟩):=λx=>o6 (C:=⟨h,x⟩) aQ (by omega)
 obtain⟨v,dB,fM,e,bJ⟩:=AX (n:=n) (C:=⟨h,0⟩) (p:=k::p) (gm:=(aa.length:Nat)) aR (r6 bG) (by omega) (by omega)
 have iY:v<aa.length:=by omega
 have it:∀x,item (.ref r) (.int (v:Nat)) ⟨h.set src (.list [.int dB,.int fM]),x⟩=some (aa[v],⟨h.set src (.list [.int dB,.int fM]),x⟩):=λx=>jz (by show h.set src _ r=_;rw[dP fJ];exact aQ) (h7 iY) (by omega)
 refine ez ?_
 refine⟨aa[v],dB,fM,?_,sf iY⟩
 rw[AQ rfl,J3]
 simp only[↓qi,↓kr,↓ku,↓tU,↓bh,↓bP,↓aV,↓ck,↓bC,↓dN,Fx,n3,e,it,Nj bG]
structure O4 (q src:ay) (h g:bl):Prop where
 qx:∃a b:Int,g src=some (.list [.int a,.int b])
 off:∀x,x≠src->¬q<:+x->g x=h x
theorem abo {R:I->aL} {P:I->Prop} (cC:∀w v,(R w).put s v=R v) (bM:m<900) (aeK:∃a b:Int,h src=some (.list [.int a,.int b])) (mQ:¬(k::p)<:+src)
  (nB:∀v g y,(∃a b:Int,g src=some (.list [.int a,.int b]))->∃u a b lU,ek (k::p) (R v) ⟨g,y⟩=some (u,⟨g.set src (.list [.int a,.int b]),lU⟩)/\P u) (w):
  ∃b5 g,jZ p (λU U=>ai true) ek s (.eo (0:Nat) (m:Nat)) (R w) ⟨h,k⟩=some (.ref (0::k::p),⟨g,k+1⟩)/\g (0::k::p)=some (.list b5)/\b5.length=m/\(∀u∈b5,P u)/\O4 (k::p) src h g:=by
 refine iu λaH ez=>?_
 have pU:(0::k::p)≠src:=λz=>mQ (z▸⟨[0],rfl⟩)
 obtain⟨b5,g,y,e,⟨sO,yM,yN⟩,aI⟩:=QN (h:=h) (k:=k) (p:=p) (ek:=ek) (it:=.eo (0:Nat) (m:Nat)) (aa:=(List.range m).map bZ) (aS:=λj b5 g y=>g (0::k::p)=some (.list b5)/\(∀u∈b5,P u)/\O4 (k::p) src h g) cC
  (by have:=sS m (by omega) ⟨h,k⟩;exact this)
  (λj b5 g y U=>by
   by_cases aW:j<m
   .have:=Nx 0 m j (by omega) ⟨g,y⟩
    rw[jI,z0 aW]
    simpa[bZ]using this
   .have:=DT 0 m j (by omega) ⟨g,y⟩
    rw[jI,sd (by simp;omega)]
    simpa using this)
  (λj b5 g y aW j8 dJ=>by
   obtain⟨sO,yM,yN⟩:=dJ
   obtain⟨u,a,b,lU,e,kC⟩:=nB ((List.range m).map bZ)[j] g y yN.qx
   refine⟨u,_,lU,e,by rw[dP pU];exact sO,cP,λv bJ=>?_,⟨⟨a,b,by rw[dP pU.symm];exact cP⟩,λx bE Z=>?_⟩⟩
   .rcases List.mem_append.mp bJ with bJ|bJ
    .exact yM v bJ
    .rw[List.mem_singleton.mp bJ];exact kC
   .rw[dP (show x≠0::k::p fromλz=>Z (by rw[z];exact⟨[0],rfl⟩)),dP bE];exact yN.off x bE Z) (by simp;omega)
  ⟨cP,by simp,⟨by obtain⟨a,b,e⟩:=aeK;exact⟨a,b,by rw[dP pU.symm];exact e⟩,λx bE Z=>dP λz=>Z (z▸⟨[0],rfl⟩)⟩⟩ w
 refine ez ?_
 refine⟨b5,g,e,sO,?_,yM,yN⟩
 simpa using aI
end
noncomputable def s8:Bool->qR->List Nat
 |_,.own=>[11]|_,.now=>[7,0]|_,.cF=>[8,0]|_,.told=>[10]|_,.cD=>[12,0]|_,.bf=>[13]|_,.src=>[0,0]
 |_,.n6 i=>[7,i+1]|_,.rz i=>[8,i+1]|_,.jF i=>[12,i+1]
 |true,.rows=>[16]|false,.rows=>[15]
 |_,.gF 0=>[14]|true,.gF 1=>[15]|false,.gF 1=>[0,5,1]|_,.gF (i+2)=>[0,5,i+2]
 |_,.ex _=>[]
noncomputable def U8:Bool->List Nat->Option qR
 |_,[11]=>some .own|_,[7,0]=>some .now|_,[8,0]=>some .cF|_,[10]=>some .told|_,[12,0]=>some .cD|_,[13]=>some .bf|_,[0,0]=>some .src
 |_,[7,i+1]=>some (.n6 i)|_,[8,i+1]=>some (.rz i)|_,[12,i+1]=>some (.jF i)
 |true,[16]=>some .rows|false,[15]=>some .rows
 |_,[14]=>some (.gF 0)|true,[15]=>some (.gF 1)|_,[0,5,i]=>some (.gF i)
 |_,_=>none
theorem A7 (t) (i):(s8 t i=[]/\∃r,i=.ex r)\/(s8 t i≠[]/\U8 t (s8 t i)=some i):=by
 induction i with
 |ex r=>exact .inl ⟨by rcases t with _|_<;>rfl,r,rfl⟩
 |gF i=>
  refine .inr ?_
  match i with
  |0=>rcases t with _|_<;>exact⟨rC _ _,rfl⟩
  |1=>rcases t with _|_<;>exact⟨rC _ _,rfl⟩
  |i+2=>cases t<;>exact⟨rC _ _,rfl⟩
 |_=>exact .inr (by cases t<;>exact⟨rC _ _,rfl⟩)
def A9 (t:Bool) (p r:ay):Prop:=∃i,s8 t i≠[]/\r=jm 0 p (s8 t i)
open Classical in
noncomputable def nT (t:Bool) (X:Nat) (p:ay) (h:bl):ay->Option cw:=λr=>if d_ p X r\/r=9::p\/A9 t p r then none else h r
noncomputable def wK (t:Bool) (p:ay) (ex:ay->Option cw):qR->ay
 | .ex r=>if(ex r).isSome then r else[]
 |i=>jm 0 p (s8 t i)
def HV (ex:ay->Option cw) (i:qR):Prop:=∀r,i=.ex r->ex r≠none
open Classical in
noncomputable def CO (f:qR->ay) (ex:ay->Option cw):ay->Option qR:=λr=>if h:∃i,HV ex i/\f i=r then some (choose h)else none
theorem AF {ex:ay->Option cw} (h:s8 t i≠[]):wK t p ex i=jm 0 p (s8 t i):=by
 cases i<;>first|rfl|exact absurd (by cases t<;>rfl) h
set_option tactic.hygienic true in
theorem KY (t) (X) (p) (h:bl):∀r,nT t X p h r≠none->¬d_ p X r/\r≠9::p/\¬A9 t p r:=λr aQ=>by
 unfold nT at aQ
 split at aQ
 .exact absurd rfl aQ
 .rename_i q;exact⟨λz=>q (.inl z),λz=>q (.inr (.inl z)),λz=>q (.inr (.inr z))⟩
theorem yy {ex:ay->Option cw} {r:ay} (h:ex r≠none):wK t p ex (.ex r)=r:=by
 show(if(ex r).isSome then r else[])=r
 rw[bT (Option.isSome_iff_ne_none.mpr h)]
theorem adf {t:Bool} {p:ay} {ex:ay->Option cw} (yG:∀r,ex r≠none->¬A9 t p r) {i j:qR} (aj:HV ex i) (aW:HV ex j) (e:wK t p ex i=wK t p ex j):i=j:=by
 rcases A7 t i with⟨_,r,rfl⟩|⟨fQ,iP⟩
 .rcases A7 t j with⟨_,s,rfl⟩|⟨je,tT⟩
  .rw[yy (aj r rfl),yy (aW s rfl)]at e;rw[e]
  .rw[yy (aj r rfl),AF je]at e
   exact absurd ⟨j,je,e⟩ (yG r (aj r rfl))
 .rcases A7 t j with⟨_,s,rfl⟩|⟨je,tT⟩
  .rw[AF fQ,yy (aW s rfl)]at e
   exact absurd ⟨i,fQ,e.symm⟩ (yG s (aW s rfl))
  .rw[AF fQ,AF je]at e
   rw[H_ fQ je e,tT]at iP
   exact(iH iP).symm
set_option tactic.hygienic true in
noncomputable def qt (t:Bool) (X:Nat) (p:ay) (h:bl):gg where
 f:=wK t p (nT t X p h)
 g:=CO (wK t p (nT t X p h)) (nT t X p h)
 ex:=nT t X p h
 CQ i aj:=by
  have:∃j,HV (nT t X p h) j/\wK t p (nT t X p h) j=wK t p (nT t X p h) i:=⟨i,aj,rfl⟩
  unfold CO
  rw[dif_pos this]
  exact cJ some (adf (λr aQ=>(KY t X p h r aQ).2.2) (BW this).1 aj (BW this).2)
 oY r i e:=by
  unfold CO at e
  split at e
  .rename_i q
   have:=(BW q).2
   rw[iH e]at this
   exact this.symm
  .cases e
theorem ajq {t:Bool} {X:Nat} {h:bl} {r:ay} (az:¬A9 t p r) (aE:nT t X p h r=none):(qt t X p h).g r=none:=by
 show CO _ _ r=none
 unfold CO
 rw[dif_neg]
 rintro ⟨i,CR,e⟩
 rcases A7 t i with⟨_,s,rfl⟩|⟨fQ,iP⟩
 .rw[yy (CR s rfl)]at e
  exact CR s rfl (e▸aE)
 .rw[AF fQ]at e
  exact az ⟨i,fQ,e.symm⟩
theorem akr (h:s8 t i≠[]):(s8 t i).headD 0<=(if t then 16 else 15):=by
 induction i with
 |gF i=>
  match i with
  |0=>rcases t with _|_<;>decide
  |1=>rcases t with _|_<;>decide
  |i+2=>rcases t with _|_<;>exact lY _
 |ex r=>exact absurd (by cases t<;>rfl) h
 |_=>rcases t with _|_<;>first|decide|exact lG rfl
set_option tactic.hygienic true in
theorem ajp {p:ay} {h:bl} (bE:(if t then 17 else 16)<=X) (aW:X<=j):c7 (qt t X p h) (j::p):=λi z=>by
 rcases A7 t i with⟨_,s,rfl⟩|⟨fQ,iP⟩
 .have nJ:(j::p)<:+(if(nT t X p h s).isSome then s else[]):=z
  split at nJ
  .rename_i q
   exact(KY t X p h s (Option.isSome_iff_ne_none.mp q)).1 (Iw nJ aW)
  .simp at nJ
 .have nJ:(j::p)<:+jm 0 p (s8 t i):=by rw[<-AF fQ];exact z
  unfold jm at nJ
  have aN:=akr fQ
  exact s7 _ (by rcases t with _|_<;>simp only[nL,reduceIte]at aN bE<;>omega) nJ
theorem HH (aI:l≠[]) (h:U8 t l=none):¬A9 t p (jm 0 p l):=λ⟨i,fQ,e⟩=>by
 rcases A7 t i with⟨d,_⟩|⟨_,iP⟩
 .exact fQ d
 .rw[<-H_ aI fQ e,h]at iP;cases iP
noncomputable def mK (av:List (Int×Int)) (bf:List Int):T:={now:=av,cF:=av,cD:=List.replicate av.length (false,false),bf:=bf,told:=[],cI:=0,cT:=0,dO:=0,round:=24,cL:=false}
noncomputable def JA (p:ay) (av:List (Int×Int)) (bf:List Int) (rows:List (List Nat)) (a b:Int):eT:={t:=mK av bf,eE:=9::p,c9:=a,tg:=b,rows:=rows}
noncomputable def zC (c m:Nat):List (List Nat):=[List.range' 0 (c+1),List.range' (c+1) (m -(c+1))]
noncomputable def zB (m:Nat):List (List Nat):=[List.range' 0 m]
noncomputable def qW (c m:Nat):List Nat:=[c,m -1]
noncomputable def qV (m:Nat):List Nat:=[m -1]
def nq (q:Int×Int):Prop:=-1000<=q.1/\q.1<=1000/\-1000<=q.2/\q.2<=1000
section
theorem Dt:a::b::p≠c::p:=λz=>by have:=cJ List.length z;simp at this
theorem WS:∀b5:List I,(∀u∈b5,∃q:Int×Int,u=e9 q/\nq q)->∃av:List (Int×Int),b5=av.map e9/\∀q∈av,nq q
 |[],_=>⟨[],rfl,by simp⟩
 |u::b5,h=>by
  obtain⟨q,rfl,Z⟩:=h u jH
  obtain⟨av,rfl,cA⟩:=WS b5 λv bJ=>h v (i9 _ bJ)
  exact⟨q::av,rfl,λr aQ=>by rcases List.mem_cons.mp aQ with rfl|aQ;exact Z;exact cA r aQ⟩
theorem WR:∀b5:List I,(∀u∈b5,∃c:Int,u=.int c)->∃l:List Int,b5=l.map I.int
 |[],_=>⟨[],rfl⟩
 |u::b5,h=>by
  obtain⟨c,rfl⟩:=h u jH
  obtain⟨l,rfl⟩:=WR b5 λv bJ=>h v (i9 _ bJ)
  exact⟨c::l,rfl⟩
theorem abW (mQ:¬q<:+src) (v) (g) (y) (aR:∃a b:Int,g src=some (.list [.int a,.int b])):∃(u:I) (a b:Int) (lU:Nat),eK (aJ (n+1)) 95 FP q [(".0",.undef),("k",v),("source",.ref src)] (ee Cr 0) ⟨g,y⟩=some (u,⟨g.set src (.list [.int a,.int b]),lU⟩)/\∃q:Int×Int,u=e9 q/\nq q:=by
 refine iu λaH ez=>?_
 obtain⟨a,b,aR⟩:=aR
 obtain⟨lF,nt,wh,bk,mS⟩:=AX (n:=n) (C:=⟨g,y⟩) (gm:=400) aR (r6 mQ) (by lia) (by lia)
 obtain⟨j4,iW,kW,bK,q4⟩:=AX (n:=n) (C:=⟨g.set src (.list [.int nt,.int wh]),y+1⟩) (p:=q) (gm:=400) cP (r6 mQ) (by lia) (by lia)
 refine ez ?_
 rw[xy]at bK
 refine⟨_,iW,kW,y+1+1,?_,((lF:Int) -100,(j4:Int) -100),rfl,?_⟩
 .simp only[↓qi,↓yr,↓KI,↓kr,↓ku,↓ak,↓bP,↓eM,↓aU,↓bC,↓dN,aa2,bk,bK,e9]
 .unfold nq;simp only;lia
theorem abV (mQ:¬q<:+src) (v) (g) (y) (aR:∃a b:Int,g src=some (.list [.int a,.int b])):∃u a b lU,eK (aJ (n+1)) 92 FQ q [(".0",.undef),("k",v),("source",.ref src)] (ee Cs 0) ⟨g,y⟩=some (u,⟨g.set src (.list [.int a,.int b]),lU⟩)/\∃c:Int,u=.int c:=by
 obtain⟨a,b,aR⟩:=aR
 obtain⟨lF,nt,wh,bk,mS⟩:=AX (n:=n) (C:=⟨g,y⟩) (gm:=300) aR (r6 mQ) (by lia) (by lia)
 exact⟨_,nt,wh,y+1,by simp only[↓qi,↓KI,↓kr,↓ku,↓ak,↓bP,↓aU,↓bC,↓dN,aa3,bk];rfl,_,rfl⟩
noncomputable def w_:I->cw| .tup xs=>.list xs|_=>.list []
theorem WI (q) (a) (C):jk q "list" [e9 a] C=some (.ref (C.k::q),⟨C.h.set (C.k::q) (w_ (e9 a)),C.k+1⟩):=rfl
theorem ab9 {av:List (Int×Int)} (v) (g) (y) (bJ:v∈av.map e9):eK L 89 FT q [(".0",.undef),("p",v)] (ee Ct 0) ⟨g,y⟩=some (.ref (y::q),⟨g.set (y::q) (w_ v),y+1⟩):=by
 obtain⟨a,_,rfl⟩:=List.mem_map.mp bJ
 simp only[↓F1,↓kr,↓ku,↓CC,↓bh,↓ck,↓dN,aa4,WI]
theorem acd {av:List (Int×Int)} (v) (g) (y) (bJ:v∈av.map e9):eK L 88 FU q [(".0",.undef),("p",v)] (ee Cu 0) ⟨g,y⟩=some (.ref (y::q),⟨g.set (y::q) (w_ v),y+1⟩):=by
 obtain⟨a,_,rfl⟩:=List.mem_map.mp bJ
 simp only[↓F1,↓kr,↓ku,↓CC,↓bh,↓ck,↓dN,aa5,WI]
theorem ab8 (v) (g) (y):eK L 88 FW q [(".0",.undef),("p",v)] (ee Cv 0) ⟨g,y⟩=some (.ref (y::q),⟨g.set (y::q) (.list [.bool false,.bool false]),y+1⟩):=by
 simp only[↓kr,↓ku,↓F0,↓bP,↓e_,↓dN,aa6,MG]
theorem Mf (q) (a) (g) (y):iK q [a] ⟨g,y⟩=some (.ref (y::q),⟨g.set (y::q) (.list [a]),y+1⟩):=rfl
theorem TB (q) (a b) (g) (y):iK q [a,b] ⟨g,y⟩=some (.ref (y::q),⟨g.set (y::q) (.list [a,b]),y+1⟩):=rfl
theorem TF (q) (a b c) (g) (y):iK q [a,b,c] ⟨g,y⟩=some (.ref (y::q),⟨g.set (y::q) (.list [a,b,c]),y+1⟩):=rfl
theorem Nu (q) (a b) (aY:a<=b) (aP:b<500) (g) (y):jk q "list" [.eo (a:Nat) b] ⟨g,y⟩=some (.ref (y::q),⟨g.set (y::q) (.list ((List.range' a (b -a)).map bZ)),y+1⟩):=by
 have iI:∀a b,jk q "list" [.eo a b]=if decide (b -a<=1000)&&(k8 a&&k8 b)then new q (.list (Be a b))else no:=λU U=>rfl
 rw[iI,t6 a (by lia),t6 b (by lia),show decide (((b:Nat):Int) -a<=1000)=true by rw[lH];lia,Vs]
 rfl
theorem D3 {r:ay} (aQ:h r=some (.jn l)) (hz:decide (l.length<1000)=true):ju (.ref r) (.str s) v ⟨h,x⟩=some ((),⟨h.set r (.jn (g9 l s v)),x⟩):=by
 show Y (obj r) _ _=_
 simp only[Y,obj,sF,aQ,hz,jW,upd]
theorem adi (m):(((m:Nat):Int)).fdiv 2=(m/2:Nat):=by rw[EN _ (by lia)];lia
theorem aas (q) (m):fk q .FloorDiv (.int (m:Nat)) (.int 2)=ai (.int (m/2:Nat)):=by rw[yh (by decide) (by decide) (by decide),adi]
theorem XQ {av:List (Int×Int)} (bM:av.length=m) (az:4<=m) (fW:m<=7) (cA:∀q∈av,nq q) (aN:bf.length=3):(mK av bf).Ok m:=by
 refine⟨⟨bM,bM,by simp[mK,bM],aN,fW⟩,λb i=>?_,.inl rfl,by show 0<m;lia,by show 0<m;lia,by show 0<m;lia⟩
 have:nq (av.getD i (0,0)):=by
  rw[kU]
  cases e:av[i]? with
  |none=>unfold nq;simp
  |some q=>exact cA q (List.mem_of_getElem? e)
 unfold nq at this
 rcases b with _|_<;>simp only[d9,mK,nL,reduceIte]<;>lia
theorem Uc {P:Nat->Prop} (az:4<=m) (fW:m<=7) (aku:P 4) (akv:P 5) (akw:P 6) (akx:P 7):P m:=by
 obtain⟨k,rfl⟩:=OI az
 have bI:k<=3:=Nat.le_of_add_le_add_left fW
 match k,bI with
 |0,_=>exact aku
 |1,_=>exact akv
 |2,_=>exact akw
 |3,_=>exact akx
theorem lC {P:Nat->Prop} (h:c<1) (n7:P 0):P c:=(Nat.lt_one_iff.mp h).symm▸n7
theorem IS {P:Nat->Prop} (h:c<2) (n7:P 0) (kF:P 1):P c:=by
 induction c with
 |zero=>exact n7
 |succ c=>exact lC (P:=λc=>P (c+1)) (zY h) kF
def vZ (rows:List (List Nat)) (ao:List Nat) (m c:Nat):Prop:=∃a cu,rows[c]?=some (List.range' a cu)/\(a,cu)∈Bw/\a+cu<=m/\a=tS ao c/\a+cu -1=ao.getD c 0
theorem alL {m:Nat} (az:4<=m) (fW:m<=7):sD (zB m) (qV m) m:=
 Uc (P:=λm=>sD (zB m) (qV m) m) az fW ⟨rfl,by decide,λc aN=>lC (P:=vZ (zB 4) (qV 4) 4) aN ⟨0,4,rfl,by decide,by decide,by decide,by decide⟩⟩ ⟨rfl,by decide,λc aN=>lC (P:=vZ (zB 5) (qV 5) 5) aN ⟨0,5,rfl,by decide,by decide,by decide,by decide⟩⟩ ⟨rfl,by decide,λc aN=>lC (P:=vZ (zB 6) (qV 6) 6) aN ⟨0,6,rfl,by decide,by decide,by decide,by decide⟩⟩ ⟨rfl,by decide,λc aN=>lC (P:=vZ (zB 7) (qV 7) 7) aN ⟨0,7,rfl,by decide,by decide,by decide,by decide⟩⟩
theorem alN {m:Nat} (az:4<=m) (fW:m<=7):sD (zC (m/2 -1) m) (qW (m/2 -1) m) m:=
 Uc (P:=λm=>sD (zC (m/2 -1) m) (qW (m/2 -1) m) m) az fW ⟨rfl,by decide,λc aN=>IS (P:=vZ (zC (4/2 -1) 4) (qW (4/2 -1) 4) 4) aN ⟨_,_,rfl,by decide,by decide,by decide,by decide⟩ ⟨_,_,rfl,by decide,by decide,by decide,by decide⟩⟩ ⟨rfl,by decide,λc aN=>IS (P:=vZ (zC (5/2 -1) 5) (qW (5/2 -1) 5) 5) aN ⟨_,_,rfl,by decide,by decide,by decide,by decide⟩ ⟨_,_,rfl,by decide,by decide,by decide,by decide⟩⟩ ⟨rfl,by decide,λc aN=>IS (P:=vZ (zC (6/2 -1) 6) (qW (6/2 -1) 6) 6) aN ⟨_,_,rfl,by decide,by decide,by decide,by decide⟩ ⟨_,_,rfl,by decide,by decide,by decide,by decide⟩⟩ ⟨rfl,by decide,λc aN=>IS (P:=vZ (zC (7/2 -1) 7) (qW (7/2 -1) 7) 7) aN ⟨_,_,rfl,by decide,by decide,by decide,by decide⟩ ⟨_,_,rfl,by decide,by decide,by decide,by decide⟩⟩
theorem acn (az:4<=m):uI (qV m) m:=⟨by simp[qV],λc aN=>by
 have:c=0:=by simpa[qV]using aN
 subst this
 simp[qV,tS];lia⟩
theorem aco (az:4<=m):uI (qW (m/2 -1) m) m:=⟨by simp[qW],λc aN=>by
 have Lj:c=0\/c=1:=by simp[qW]at aN;lia
 rcases Lj with rfl|rfl<;>simp[qW,tS]<;>lia⟩
structure dI (cN:Obj) p (g:bl) (K:List Nat->Option cw):Prop where
 nil:g []=some (.k4 cN)
 qx:∃a b:Int,g (0::0::p)=some (.list [.int a,.int b])
 all:∀t o,K t=some o->g (t++p)=some o
noncomputable def BE:List Nat->List Nat->Bool
 |[a],[b]=>Nat.beq a b
 |[a,c],[b,d]=>Nat.beq c d&&Nat.beq a b
 |_,_=>false
theorem WD:∀{x t:List Nat},BE x t=true->x=t
 |[a],[b],h=>by rw[zZ h]
 |[a,c],[b,d],h=>by
  have h:=(gI _ _).mp h
  rw[zZ h.1,zZ h.2]
noncomputable def mE (K:List Nat->Option cw) (t:List Nat) (o:cw):List Nat->Option cw:=λx=>match BE x t with|true=>some o|false=>K x
noncomputable def uX (K:List Nat->Option cw) (k:Nat) (l:cw) (f:Nat->Option cw):List Nat->Option cw
 |[a]=>match Nat.beq a k with|true=>none|false=>K [a]
 |[0,b]=>match Nat.beq b k with|true=>some l|false=>K [0,b]
 |[i+1,b]=>match Nat.beq b k with|true=>f i|false=>K [i+1,b]
 |_=>none
set_option tactic.hygienic true in
theorem dI.up {cN:Obj} {K:List Nat->Option cw} (cE:dI cN p g K) (az:BE t t=true) (cj:BE [0,0] t=false):dI cN p (g.set (t++p) o) (mE K t o) where
 nil:=(dP λz=>by
  have:=List.append_eq_nil_iff.mp z.symm
  rw[this.1]at az;cases az).trans cE.nil
 qx:=let⟨a,b,e⟩:=cE.qx;⟨a,b,(dP λz=>by
  have:[0,0]=t:=EP z
  rw[<-this]at cj;cases cj).trans e⟩
 all x gM h:=by
  unfold mE at h
  split at h
  .rename_i e
   cases h;rw[WD e];exact cP
  .rename_i e
   refine(dP λz=>?_).trans (cE.all x gM h)
   rw[EP z,az]at e;cases e
set_option tactic.hygienic true in
theorem dI.off {cN:Obj} {K:List Nat->Option cw} {l:cw} (cE:dI cN p g K) (cj:K [0,0]=none) (cA:∃a b:Int,h (0::0::p)=some (.list [.int a,.int b]))
  (bw:∀x,x≠0::0::p->¬(k::p)<:+x->h x=g x) (aI:h (0::k::p)=some l) (bD:∀i o,f i=some o->h ((i+1)::k::p)=some o):dI cN p h (uX K k l f) where
 nil:=(bw _ (λz=>by cases z) (by simp)).trans cE.nil
 qx:=cA
 all x o e:=by
  have ne:∀{t:List Nat} {o:cw},K t=some o->t++p≠0::0::p:=λ{t o} e z=>by
   have q:t=[0,0]:=EP z
   rw[q,cj]at e;cases e
  have pe:∀{a:Nat},Nat.beq a k=false->a≠k:=λe=>Nat.ne_of_beq_eq_false e
  unfold uX at e
  split at e
  .split at e
   .cases e
   .rename_i q;exact(bw _ (ne e) (zg (pe q))).trans (cE.all _ _ e)
  .split at e
   .rename_i q;cases e;rw[zZ q];exact aI
   .rename_i q;exact(bw _ (ne e) (s6 (pe q))).trans (cE.all _ _ e)
  .split at e
   .rename_i q;rw[zZ q];exact bD _ _ e
   .rename_i q;exact(bw _ (ne e) (s6 (pe q))).trans (cE.all _ _ e)
  .cases e
theorem dI.take {K:List Nat->Option cw} (cE:dI cN p g K) (cj:K [0,0]=none):dI cN p (g.set (0::0::p) (.list [.int a,.int b])) K where
 nil:=(dP λz=>by cases z).trans cE.nil
 qx:=⟨a,b,cP⟩
 all x o e:=(dP λz=>by
  have q:x=[0,0]:=EP z
  rw[q,cj]at e;cases e).trans (cE.all x o e)
theorem sp {P:Option (I×bL)->Prop} (h:Q.hd c C=some (v,aT)) (r:P (Q.run (Q.vo c v) aT)):P (Q.run c C):=(Q.bx h rfl).symm▸r
theorem al6 {P:Option (I×bL)->Prop} (e:Q.hd c C=D) (aN:c=.pr (Q.hd c) Q.ret) (h:P D):P (Q.run c C):=by
 rw[aN];exact(Q.fin.trans e).symm▸h
end
end Mine.lK
namespace Mine.Q
noncomputable abbrev Wt (L:cy) (p:ay) (X t3 f_ h6 kG n9 pG qa:I):bF I:=Y (ai (.bytes [])) λOc=>Y (ck L p (ai (.type "range")) (bh (aU p .Add (ak 4) (bC L p 1290 (bP (H t3) (ak 7)))))) λamY=>pr (jL L p 88 (aA 189).sc AZ Dl amY (A1 L p) (zy X t3 f_ h6 kG n9 pG qa Oc .undef .undef .undef .undef .undef .undef))
noncomputable abbrev IL (L:cy) (p:ay) (X t3 f_ h6 kG n9 pG qa:I):bF I:=Y (b7 (b_ .Eq (ck L p (ai (.bi "len")) (bh (H n9))) (ak 2)) (Y (bP (ck L p (ai (.type "list")) (bh (ck L p (ai (.type "range")) (bh (aU p .Add (H kG) (ak 1)))))) (ck L p (ai (.type "list")) (bh (ck L p (ai (.type "range")) (bP (aU p .Add (H kG) (ak 1)) (H f_)))))) (iK p)) (e_ p (bh (ck L p (ai (.type "list")) (bh (ck L p (ai (.type "range")) (bh (H f_)))))))) λOa=>gT (H qa) (ns "rows") Oa (Wt L p X t3 f_ h6 kG n9 pG qa)
noncomputable abbrev Ws (L:cy) (p:ay) (X t3 f_ h6 kG n9 pG qa:I):bF I:=Y (eM (dF (Y (H h6) λvI=>pr (rI L p 88 FW Cv "p" vI (Ng .undef))) (ck L p (ai (.type "list")) (bh (H pG))) (ak 0))) λanx=>tw anx λanz N5 N6=>gT (H qa) (ns "touched") anz (gT (H qa) (ns "cvt") N5 (gT (H qa) (ns "axis") N6 (IL L p X t3 f_ h6 kG n9 pG qa)))
noncomputable abbrev Wr (L:cy) (p:ay) (X t3 f_ h6 kG n9 pG:I):bF I:=Y (Y (qC (Y (H h6) λN3=>pr (rI L p 89 FT Ct "p" N3 (Nd .undef))) (Y (H h6) λanv=>pr (rI L p 88 FU Cu "p" anv (Nf .undef))) (e_ p (dF (ak 0) (ak 0) (ak 0))) (Y (ai []) (iK p)) (ak 24)) λant=>pr (new p (.jn (List.zip [("now":Str),("was":Str),("rp":Str),("told":Str),("round":Str)] ant)))) λqa=>Ws L p X t3 f_ h6 kG n9 pG qa
noncomputable abbrev Wq (L:cy) (p:ay) (X t3 f_ h6 kG n9:I):bF I:=Y (Y (ck L p (ai (.type "range")) (bh (ak 3))) λEf=>pr (rI L p 92 FQ Cs "k" Ef (Nc .undef t3))) λpG=>Wr L p X t3 f_ h6 kG n9 pG
noncomputable abbrev Wo (L:cy) (p:ay) (X t3 f_ h6 kG:I):bF I:=Y (b7 (b_ .Lt (H kG) (aU p .Sub (H f_) (ak 1))) (e_ p (bP (H kG) (aU p .Sub (H f_) (ak 1)))) (e_ p (bh (aU p .Sub (H f_) (ak 1))))) λn9=>Wq L p X t3 f_ h6 kG n9
noncomputable abbrev Wn (L:cy) (p:ay) (X t3 f_:I):bF I:=Y (Y (ck L p (ai (.type "range")) (bh (H f_))) λmZ=>pr (rI L p 95 FP Cr "k" mZ (Nb .undef t3))) λh6=>Y (bC L p 1297 (bP (H t3) (e_ p (bP (aU p .Sub (H f_) (ak 1)) (aU p .Sub (aU p .FloorDiv (H f_) (ak 2)) (ak 1)))))) λkG=>Wo L p X t3 f_ h6 kG
noncomputable abbrev anH (L:cy) (p:ay) (X:I):bF I:=Y (bC L p 1283 (bh (H X))) λt3=>Y (aU p .Add (ak 4) (bC L p 1290 (bP (H t3) (ak 4)))) λf_=>Wn L p X t3 f_
theorem anN {L:cy} {p:ay} {X:I}:body L p 1385 [X]=(anH L p X).bB:=by kernel_rfl
end Mine.Q
namespace Mine.lK
section
def sx (n:Nat) (p:ay) (cN:Obj) (R:Option (I×bL)):Prop:=∀aH:Prop,(∀m av bf ao rows dD X g a b jd d,
   R=gP (λJ k=>c5 (aJ (n+5)) 88 (aA 189).sc p AZ J k) (λv J k=>asg (aJ (n+5)) 88 (aA 189).sc p 3 Dl v J k) (.eo 0 ((d:Nat):Int)) (A1 (aJ (n+5)) p) 1000 0 (xw (qt dD X p g) (.ref []) m (.ref (0::2::p)) jd (.ref (5::p)) (.ref (0::6::p)) (.bytes []) .undef .undef .undef) ⟨aF (qt dD X p g) g (JA p av bf rows a b),X⟩->
   av.length=m->4<=m->m<=7->(∀q∈av,nq q)->bf.length=3->sD rows ao m->uI ao m->d<=10->(if dD then 17 else 16)<=X->g (9::p)=some (.list [.int 0,.int 0,.int 0])->(qt dD X p g).g (9::p)=none->
   (qt dD X p g).ex (0::2::p)=some (.list (av.map e9))->(qt dD X p g).ex (5::p)=some (.list (ao.map bZ))->(qt dD X p g).ex (0::6::p)=some (.list (bf.map I.int))->(qt dD X p g).ex []=some (.k4 cN)->aH)->aH
noncomputable def wH (dD:Bool) (m:Nat):List Nat:=match dD with|true=>qW (m/2 -1) m|false=>qV m
noncomputable def Ij (dD:Bool) (m:Nat):List (List Nat):=match dD with|true=>zC (m/2 -1) m|false=>zB m
noncomputable def CB (dD:Bool) (m:Nat):Nat:=match dD with|true=>m/2 -1|false=>m -1
noncomputable def A8 (p:ay):List (Str×I):=[(("now":Str),.ref (0::7::p)),(("was":Str),.ref (0::8::p)),(("rp":Str),.ref (9::p)),(("told":Str),.ref (10::p)),(("round":Str),.int 24)]
noncomputable def HZ (p:ay):List (Str×I):=A8 p++[(("touched":Str),.ref (0::12::p)),(("cvt":Str),.ref (13::p)),(("axis":Str),.int 0)]
noncomputable def Ae (av:List (Int×Int)):List Nat->Option cw:=uX (λU=>none) 2 (.list (av.map e9)) λU=>none
noncomputable def E6 (av:List (Int×Int)) (ao:List Nat):List Nat->Option cw:=mE (Ae av) [5] (.list (ao.map bZ))
noncomputable def E7 (av:List (Int×Int)) (ao:List Nat) (bf:List Int):List Nat->Option cw:=uX (E6 av ao) 6 (.list (bf.map I.int)) λU=>none
noncomputable def H9 (av:List (Int×Int)) (i:Nat):Option cw:=(av.map e9)[i]?.map w_
noncomputable def J6 (av:List (Int×Int)) (i:Nat):Option cw:=(av.map e9)[i]?.map λU=>cw.list [.bool false,.bool false]
noncomputable def Bf (k:Nat) (p:ay) (av:List (Int×Int)):cw:=.list (iE (λi=>(i+1)::k::p) (av.map e9).length)
noncomputable def Af (p:ay) (av:List (Int×Int)) (ao:List Nat) (bf:List Int):List Nat->Option cw:=uX (uX (E7 av ao bf) 7 (Bf 7 p av) (H9 av)) 8 (Bf 8 p av) (H9 av)
noncomputable def O8 (p:ay) (av:List (Int×Int)) (ao:List Nat) (bf:List Int) (l:List (Str×I)):List Nat->Option cw:=mE (mE (mE (Af p av ao bf) [9] (.list [.int 0,.int 0,.int 0])) [10] (.list [])) [11] (.jn l)
noncomputable def XC (p:ay) (av:List (Int×Int)) (ao:List Nat) (bf:List Int) (l:List (Str×I)):List Nat->Option cw:=mE (uX (O8 p av ao bf l) 12 (Bf 12 p av) (J6 av)) [13] (.list (bf.map I.int))
theorem dI.draw {P:Option (I×bL)->Prop} {K:List Nat->Option cw} {gm:Int} (cE:dI cN p g K) (cj:K [0,0]=none) (bI:0≠k) (bY:0<gm) (aP:gm<100000) (r:∀v f5,((v:Nat):Int)<gm->dI cN p f5 K->P (Q.run (c (.int (v:Nat))) ⟨f5,k+1⟩)):
  P (Q.run (.pr (aJ (n+1) p 1290 [.ref (0::0::p),.int gm]) c) ⟨g,k⟩):=by
 obtain⟨a,b,e⟩:=cE.qx
 obtain⟨v,dB,fM,e,bJ⟩:=AX (n:=n) (C:=⟨g,k⟩) (p:=p) (gm:=gm) e (s6 bI) bY aP
 exact sp e (r v _ bJ (cE.take cj))
noncomputable def Na (dD:Bool):Nat:=match dD with|true=>16|false=>15
theorem Gj (X) {r:ay} (az:g r=some o) (aE:¬d_ p X r) (b8:r≠9::p) (cH:¬A9 dD p r):(qt dD X p g).ex r=some o:=by
 show nT dD X p g r=_
 unfold nT
 rw[bX (λz=>z.elim aE λz=>z.elim b8 cH)];exact az
theorem HF (t) (aN:c<X):¬d_ p X (t++c::p):=λz=>by
 obtain⟨f9,SR,az,aE⟩:=z
 have:=cJ List.reverse aE
 simp at this
 lia
structure Ab (cN:Obj) (p:ay) (dD:Bool) (m:Nat) (av:List (Int×Int)) (bf:List Int) (g:bl):Prop where
 nil:g []=some (.k4 cN)
 M1:g (0::2::p)=some (.list (av.map e9))
 ends:g (5::p)=some (.list ((wH dD m).map bZ))
 KD:g (0::6::p)=some (.list (bf.map I.int))
 r9:g (9::p)=some (.list [.int 0,.int 0,.int 0])
 own:g (11::p)=some (.jn (g9 (HZ p) ("rows":Str) (.ref (Na dD::p))))
 now:g (0::7::p)=some (Bf 7 p av)
 cF:g (0::8::p)=some (Bf 8 p av)
 cD:g (0::12::p)=some (Bf 12 p av)
 told:g (10::p)=some (.list [])
 KG:g (13::p)=some (.list (bf.map I.int))
 n6:∀i o,H9 av i=some o->g ((i+1)::7::p)=some o
 rz:∀i o,H9 av i=some o->g ((i+1)::8::p)=some o
 jF:∀i o,J6 av i=some o->g ((i+1)::12::p)=some o
 rows:g (Na dD::p)=some (.list (iE (λi=>(14+i)::p) (Ij dD m).length))
 gF:∀i l,(Ij dD m)[i]?=some l->g ((14+i)::p)=some (.list (l.map bZ))
theorem Ab.ajR (F:Ab cN p dD m av bf g) (aR:g (0::0::p)=some (.list [.int a,.int b])) (X):aF (qt dD X p g) g (JA p av bf (Ij dD m) a b)=g:=ajT λi o aj=>by
 cases i with
 |own=>exact(F.own.trans (cJ some (by cases dD<;>rfl))).trans aj
 |now=>exact(F.now.trans (cJ (λn=>some (cw.list (iE (λi=>(i+1)::7::p) n))) (fD ..))).trans aj
 |cF=>exact(F.cF.trans (cJ (λn=>some (cw.list (iE (λi=>(i+1)::8::p) n))) (fD ..))).trans aj
 |told=>exact F.told.trans aj
 |cD=>exact(F.cD.trans (cJ (λn=>some (cw.list (iE (λi=>(i+1)::12::p) n))) ((fD ..).trans List.length_replicate.symm))).trans aj
 |bf=>exact F.KG.trans aj
 |src=>exact aR.trans aj
 |rows=>cases dD<;>exact F.rows.trans aj
 |n6 i=>exact F.n6 i o ((cJ (Option.map w_) jI).trans ((Option.map_map ..).trans aj))
 |rz i=>exact F.rz i o ((cJ (Option.map w_) jI).trans ((Option.map_map ..).trans aj))
 |jF i=>
  refine F.jF i o ?_
  have aj:(List.replicate av.length (false,false))[i]?.map (λq=>cw.list (uP q))=some o:=aj
  unfold J6
  rw[jI]
  by_cases iY:i<av.length
  .rw[ES,bT iY]at aj
   rw[h7 iY];exact aj
  .rw[ES,bX iY]at aj;cases aj
 |gF i=>
  obtain⟨l,bk,rfl⟩:=Option.map_eq_some_iff.mp aj
  refine Eq.trans ?_ (F.gF i l bk)
  match dD,i with
  |true,0=>rfl
  |true,1=>rfl
  |false,0=>rfl
  |true,i+2=>cases bk
  |false,i+1=>cases bk
 |ex r=>
  have aj:nT dD X p g r=some o:=aj
  have fJ:nT dD X p g r≠none:=by rw[aj];exact I6 _
  have e:(qt dD X p g).f (.ex r)=r:=yy (t:=dD) (p:=p) fJ
  rw[e,<-aj]
  obtain⟨kD,mW,Du⟩:=KY _ _ _ _ r fJ
  unfold nT
  rw[bX (λz=>z.elim kD λz=>z.elim mW Du)]
theorem amx {dD:Bool} {m d X:Nat} {av:List (Int×Int)} (F:Ab cN p dD m av bf g) (aR:∃a b:Int,g (0::0::p)=some (.list [.int a,.int b])) (bE:(if dD then 17 else 16)<=X) (bM:av.length=m) (cH:4<=m) (fW:m<=7) (kC:∀q∈av,nq q) (aN:bf.length=3) (hd:d<=10):
  sx n p cN (gP (λJ k=>c5 (aJ (n+5)) 88 (aA 189).sc p AZ J k) (λv J k=>asg (aJ (n+5)) 88 (aA 189).sc p 3 Dl v J k) (.eo 0 ((d:Nat):Int)) (A1 (aJ (n+5)) p) 1000 0 (zy (.ref []) (.ref (0::0::p)) (.int (m:Nat)) (.ref (0::2::p)) c (.ref (5::p)) (.ref (0::6::p)) (.ref (11::p)) (.bytes []) .undef .undef .undef .undef .undef .undef) ⟨g,X⟩):=by
 refine iu λaH ez=>?_
 obtain⟨a,b,aR⟩:=aR
 have LA:16<=X:=d5 (by rcases dD with _|_<;>decide) bE
 refine ez ?_
 intro aH r
 refine r m av bf (wH dD m) (Ij dD m) dD X g a b c d ?_ bM cH fW kC aN ?_ ?_ hd bE F.r9 ?_ (Gj X F.M1 (HF [0] (lW (by decide) LA)) Dt (HH (l:=[2,0]) (rC _ _) (by cases dD<;>rfl))) (Gj X F.ends (HF [] (lW (by decide) LA)) (λz=>by cases z) (HH (l:=[5]) (rC _ _) (by cases dD<;>rfl))) (Gj X F.KD (HF [0] (lW (by decide) LA)) Dt (HH (l:=[6,0]) (rC _ _) (by cases dD<;>rfl))) (Gj X F.nil ?_ (λz=>by cases z) ?_)
 .rw[F.ajR aR];rfl
 .cases dD
  .exact alL cH fW
  .exact alN cH fW
 .cases dD
  .exact acn cH
  .exact aco cH
 .refine ajq (HH (l:=[9]) (rC _ _) (by cases dD<;>rfl)) ?_
  show nT dD X p g _=none
  unfold nT
  rw[bT (.inr (.inl rfl))]
 .exactλ⟨t,j,_,z⟩=>Xd t (rC _ _) z.symm
 .exactλ⟨i,_,z⟩=>Xd _ (rC _ _) z.symm
noncomputable def Ou (dD:Bool):Nat:=match dD with|true=>17|false=>16
theorem V_ {dD:Bool} {m:Nat} {av:List (Int×Int)} {K:List Nat->Option cw} (cE:dI cN p g K) (cj:K [0,0]=none) (Xv:∀g,dI cN p g K->Ab cN p dD m av bf g) (bM:av.length=m) (cH:4<=m) (fW:m<=7) (kC:∀q∈av,nq q) (aN:bf.length=3):
  sx n p cN (Q.run ((Q.Wt (aJ (n+5)) p (.ref []) (.ref (0::0::p)) (.int (m:Nat)) (.ref (0::2::p)) (.int c) (.ref (5::p)) (.ref (0::6::p)) (.ref (11::p))).cps Q.ret) ⟨g,Ou dD⟩):=
 cE.draw (n:=n+4) cj (by rcases dD with _|_<;>decide) (by decide) (by decide) λv f5 bJ cE=>by
  have bJ:v<7:=Int.ofNat_lt.mp bJ
  have hd:4+v<=10:=uA (z3 bJ) 4
  have h:=amx (n:=n) (d:=4+v) (X:=Ou dD+1) (c:=.int c) (Xv f5 cE) cE.qx (by rcases dD with _|_<;>decide) bM cH fW kC aN hd
  refine sp (aT:=⟨f5,Ou dD+1⟩) (Q.fR (qy p (4+v) (dg hd (by decide)) _)) ?_
  exact al6 (Q.nj (sS (4+v) (dg hd (by decide)) _) rfl) rfl h
noncomputable def Cc (p:ay) (av:List (Int×Int)) (ao:List Nat) (bf:List Int):List Nat->Option cw:=mE (XC p av ao bf (A8 p)) [11] (.jn (HZ p))
noncomputable def H6 (dD:Bool) (p:ay):cw:=.jn (g9 (HZ p) ("rows":Str) (.ref (Na dD::p)))
noncomputable def XG (p:ay) (av:List (Int×Int)) (bf:List Int) (m:Nat):List Nat->Option cw:=mE (mE (mE (Cc p av (qV m) bf) [14] (.list ((List.range' 0 m).map bZ))) [15] (.list [.ref (14::p)])) [11] (H6 false p)
noncomputable def XH (p:ay) (av:List (Int×Int)) (bf:List Int) (m:Nat):List Nat->Option cw:=mE (mE (mE (mE (Cc p av (qW (m/2 -1) m) bf) [14] (.list ((List.range' 0 (m/2 -1+1)).map bZ))) [15] (.list ((List.range' (m/2 -1+1) (m -(m/2 -1+1))).map bZ))) [16] (.list [.ref (14::p),.ref (15::p)])) [11] (H6 true p)
theorem Xw (cE:dI cN p g (XG p av bf m)):Ab cN p false m av bf g where
 nil:=cE.nil
 M1:=cE.all [0,2] _ rfl
 ends:=cE.all [5] _ rfl
 KD:=cE.all [0,6] _ rfl
 r9:=cE.all [9] _ rfl
 own:=cE.all [11] _ rfl
 now:=cE.all [0,7] _ rfl
 cF:=cE.all [0,8] _ rfl
 cD:=cE.all [0,12] _ rfl
 told:=cE.all [10] _ rfl
 KG:=cE.all [13] _ rfl
 n6 i o h:=cE.all [i+1,7] o h
 rz i o h:=cE.all [i+1,8] o h
 jF i o h:=cE.all [i+1,12] o h
 rows:=cE.all [15] _ rfl
 gF i l h:=match i,h with
  |0,h=>cE.all [14] _ (cJ (λl:List Nat=>some (cw.list (l.map bZ))) (iH h))
  |i+1,h=>nomatch h
theorem Xx (cE:dI cN p g (XH p av bf m)):Ab cN p true m av bf g where
 nil:=cE.nil
 M1:=cE.all [0,2] _ rfl
 ends:=cE.all [5] _ rfl
 KD:=cE.all [0,6] _ rfl
 r9:=cE.all [9] _ rfl
 own:=cE.all [11] _ rfl
 now:=cE.all [0,7] _ rfl
 cF:=cE.all [0,8] _ rfl
 cD:=cE.all [0,12] _ rfl
 told:=cE.all [10] _ rfl
 KG:=cE.all [13] _ rfl
 n6 i o h:=cE.all [i+1,7] o h
 rz i o h:=cE.all [i+1,8] o h
 jF i o h:=cE.all [i+1,12] o h
 rows:=cE.all [16] _ rfl
 gF i l h:=match i,h with
  |0,h=>cE.all [14] _ (cJ (λl:List Nat=>some (cw.list (l.map bZ))) (iH h))
  |1,h=>cE.all [15] _ (cJ (λl:List Nat=>some (cw.list (l.map bZ))) (iH h))
  |i+2,h=>nomatch h
theorem amv (cE:dI cN p g (Cc p av (qV m) bf)) (bM:av.length=m) (cH:4<=m) (fW:m<=7) (kC:∀q∈av,nq q) (aN:bf.length=3):
  sx n p cN (Q.run ((Q.IL (aJ (n+5)) p (.ref []) (.ref (0::0::p)) (.int (m:Nat)) (.ref (0::2::p)) (.int ((m -1:Nat):Int)) (.ref (5::p)) (.ref (0::6::p)) (.ref (11::p))).cps Q.ret) ⟨g,14⟩):=
 have aP:m<500:=dg fW (by decide)
 sp (Q.iy (o6 (cE.all [5] _ rfl) (show 1<=100000 by decide)))<|sp (Q.eN (show¬((1:Nat):Int)=2 by decide))<|sp (Q.fR (qy p m (fV aP (by decide)) _))<|sp (Q.fR (Nu p 0 m (lY _) aP g 14))<|sp (Mf p _ _ 15)<|
 have g6:=(cE.up (t:=[14]) (o:=.list ((List.range' 0 m).map bZ)) rfl rfl).up (t:=[15]) (o:=.list [.ref (14::p)]) rfl rfl
 sp (Q.gy (D3 (g6.all [11] _ rfl) rfl))<|V_ (dD:=false) (g6.up (t:=[11]) (o:=H6 false p) rfl rfl) rfl (λU=>Xw) bM cH fW kC aN
theorem amw (cE:dI cN p g (Cc p av (qW (m/2 -1) m) bf)) (bM:av.length=m) (cH:4<=m) (fW:m<=7) (kC:∀q∈av,nq q) (aN:bf.length=3):
  sx n p cN (Q.run ((Q.IL (aJ (n+5)) p (.ref []) (.ref (0::0::p)) (.int (m:Nat)) (.ref (0::2::p)) (.int ((m/2 -1:Nat):Int)) (.ref (5::p)) (.ref (0::6::p)) (.ref (11::p))).cps Q.ret) ⟨g,14⟩):=
 have aP:m<500:=dg fW (by decide)
 have hd:m/2 -1+1<=m:=by lia
 have oA:m/2 -1+1<500:=dg hd aP
 sp (Q.iy (o6 (cE.all [5] _ rfl) (show 2<=100000 by decide)))<|sp (Q.eqT (show((2:Nat):Int)=2 by decide))<|sp (Q.fR (qy p (m/2 -1+1) (fV oA (by decide)) _))<|sp (Q.fR (Nu p 0 (m/2 -1+1) (lY _) oA g 14))<|sp (Q.fR (Ie p (m/2 -1+1) m oA aP _))<|sp (Q.fR (Nu p (m/2 -1+1) m hd aP _ 15))<|sp (TB p _ _ _ 16)<|
 have g6:=((cE.up (t:=[14]) (o:=.list ((List.range' 0 (m/2 -1+1)).map bZ)) rfl rfl).up (t:=[15]) (o:=.list ((List.range' (m/2 -1+1) (m -(m/2 -1+1))).map bZ)) rfl rfl).up (t:=[16]) (o:=.list [.ref (14::p),.ref (15::p)]) rfl rfl
 sp (Q.gy (D3 (g6.all [11] _ rfl) rfl))<|V_ (dD:=true) (g6.up (t:=[11]) (o:=H6 true p) rfl rfl) rfl (λU=>Xx) bM cH fW kC aN
theorem amu (cE:dI cN p g (Cc p av (wH dD m) bf)) (bM:av.length=m) (cH:4<=m) (fW:m<=7) (kC:∀q∈av,nq q) (aN:bf.length=3):
  sx n p cN (Q.run ((Q.IL (aJ (n+5)) p (.ref []) (.ref (0::0::p)) (.int (m:Nat)) (.ref (0::2::p)) (.int (CB dD m:Nat)) (.ref (5::p)) (.ref (0::6::p)) (.ref (11::p))).cps Q.ret) ⟨g,14⟩):=by
 rcases dD with _|_
 .exact amv cE bM cH fW kC aN
 .exact amw cE bM cH fW kC aN
theorem dI.drop {K:List Nat->Option cw} {a b:cw} (cE:dI cN p g (mE (mE K t a) t b)):dI cN p g (mE K t b):=⟨cE.nil,cE.qx,λx o e=>cE.all x o (by
 unfold mE at e ⊢
 cases h:BE x t<;>simp only[h]at e ⊢<;>exact e)⟩
theorem dI.new {K:List Nat->Option cw} {R:I->aL} {P:Option (I×bL)->Prop} (cE:dI cN p g K) (cj:K [0,0]=none) (bI:0≠k) (aQ:K t=some (.list aa)) (Z:¬(k::p)<:+t++p) (aI:aa.length<900) (cC:∀w v,(R w).put s v=R v)
  (nB:∀v h y,v∈aa->ek (k::p) (R v) ⟨h,y⟩=some (.ref (y::k::p),⟨h.set (y::k::p) (f v),y+1⟩))
  (r:∀f5,dI cN p f5 (uX K k (.list (iE (λi=>(i+1)::k::p) aa.length)) λi=>aa[i]?.map f)->P (Q.run (c (.ref (0::k::p))) ⟨f5,k+1⟩)):
  P (Q.run (.pr (jZ p (λU U=>ai true) ek s (.ref (t++p)) (R .undef)) c) ⟨g,k⟩):=by
 refine iu λaH ez=>?_
 obtain⟨f5,e,bk,bK,gJ⟩:=QK (p:=p) (k:=k) (s:=s) (f:=f) cC (cE.all t _ aQ) Z aI (λv h y bJ U=>nB v h y bJ) .undef
 refine ez ?_
 refine sp e (r f5 (cE.off cj ?_ (λx U bE=>gJ x bE) bk λi o h=>?_))
 .obtain⟨a,b,h⟩:=cE.qx
  exact⟨a,b,(gJ _ (s6 bI)).trans h⟩
 .obtain⟨v,bJ,rfl⟩:=Option.map_eq_some_iff.mp h
  exact bK i v bJ
theorem dI.drawn {K:List Nat->Option cw} {R:I->aL} {Cg:I->Prop} {P:Option (I×bL)->Prop} (cE:dI cN p g K) (cj:K [0,0]=none) (bI:0≠k) (cC:∀w v,(R w).put s v=R v) (bM:m<900)
  (nB:∀v g y,(∃a b:Int,g (0::0::p)=some (.list [.int a,.int b]))->∃u a b lU,ek (k::p) (R v) ⟨g,y⟩=some (u,⟨g.set (0::0::p) (.list [.int a,.int b]),lU⟩)/\Cg u)
  (r:∀b5 f5,b5.length=m->(∀u∈b5,Cg u)->dI cN p f5 (uX K k (.list b5) λU=>none)->P (Q.run (c (.ref (0::k::p))) ⟨f5,k+1⟩)):
  P (Q.run (.pr (jZ p (λU U=>ai true) ek s (.eo 0 (m:Nat)) (R .undef)) c) ⟨g,k⟩):=by
 refine iu λaH ez=>?_
 obtain⟨b5,f5,e,bk,bK,gJ,nv⟩:=abo (p:=p) (k:=k) (s:=s) (P:=Cg) cC bM cE.qx (s6 bI) nB .undef
 refine ez ?_
 exact sp e (r b5 f5 bK gJ (cE.off cj nv.qx nv.off bk λi o h=>nomatch h))
theorem amt {m:Nat} {av:List (Int×Int)} (cE:dI cN p g (O8 p av (wH dD m) bf (A8 p))) (bM:av.length=m) (cH:4<=m) (fW:m<=7) (kC:∀q∈av,nq q) (aN:bf.length=3):
  sx n p cN (Q.run ((Q.Ws (aJ (n+5)) p (.ref []) (.ref (0::0::p)) (.int (m:Nat)) (.ref (0::2::p)) (.int (CB dD m:Nat)) (.ref (5::p)) (.ref (0::6::p)) (.ref (11::p))).cps Q.ret) ⟨g,12⟩):=
 cE.new (ek:=λq J=>eK (aJ (n+5)) 88 FW q J (ee Cv 0)) (R:=λv=>Ng v) (s:="p") (aa:=av.map e9) (t:=[0,2]) (f:=λU=>.list [.bool false,.bool false]) rfl (by decide) rfl (s6 (by decide)) (by rw[fD,bM];exact dg fW (by decide)) (λU U=>rfl) (λv h y U=>ab8 v h y) λf5 cE=>
 sp (Q.fR (TH (cE.all [0,6] _ rfl) (by rw[fD,aN];decide)))<|
 have AS:=cE.up (t:=[13]) (o:=.list (bf.map I.int)) rfl rfl
 sp (Q.gy (D3 (AS.all [11] _ rfl) rfl))<|
 have g6:=AS.up (t:=[11]) (o:=.jn (g9 (A8 p) ("touched":Str) (.ref (0::12::p)))) rfl rfl
 sp (Q.gy (D3 (g6.all [11] _ rfl) rfl))<|
 have gK:=(g6.up (t:=[11]) (o:=.jn (g9 (g9 (A8 p) ("touched":Str) (.ref (0::12::p))) ("cvt":Str) (.ref (13::p)))) rfl rfl).drop
 sp (Q.gy (D3 (gK.all [11] _ rfl) rfl))<|
 have afv:=(gK.up (t:=[11]) (o:=.jn (HZ p)) rfl rfl).drop
 amu afv bM cH fW kC aN
theorem ams {dD:Bool} {m:Nat} {av:List (Int×Int)} (cE:dI cN p g (E7 av (wH dD m) bf)) (bM:av.length=m) (cH:4<=m) (fW:m<=7) (kC:∀q∈av,nq q) (aN:bf.length=3):
  sx n p cN (Q.run ((Q.Wr (aJ (n+5)) p (.ref []) (.ref (0::0::p)) (.int (m:Nat)) (.ref (0::2::p)) (.int (CB dD m:Nat)) (.ref (5::p)) (.ref (0::6::p))).cps Q.ret) ⟨g,7⟩):=
 have aI:(av.map e9).length<900:=by rw[fD,bM];exact dg fW (by decide)
 cE.new (ek:=λq J=>eK (aJ (n+5)) 89 FT q J (ee Ct 0)) (R:=λv=>Nd v) (s:="p") (aa:=av.map e9) (t:=[0,2]) (f:=w_) rfl (by decide) rfl (s6 (by decide)) aI (λU U=>rfl) (λv h y bJ=>ab9 v h y bJ) λf5 cE=>
 cE.new (ek:=λq J=>eK (aJ (n+5)) 88 FU q J (ee Cu 0)) (R:=λv=>Nf v) (s:="p") (aa:=av.map e9) (t:=[0,2]) (f:=w_) rfl (by decide) rfl (s6 (by decide)) aI (λU U=>rfl) (λv h y bJ=>acd v h y bJ) λf5 cE=>
 sp (TF p _ _ _ _ 9)<|sp (aT:=⟨_,11⟩) rfl<|sp (aT:=⟨_,12⟩) rfl<|
 amt (((cE.up (t:=[9]) (o:=.list [.int 0,.int 0,.int 0]) rfl rfl).up (t:=[10]) (o:=.list []) rfl rfl).up (t:=[11]) (o:=.jn (A8 p)) rfl rfl) bM cH fW kC aN
theorem V9 {dD:Bool} {m:Nat} {av:List (Int×Int)} (cE:dI cN p g (E6 av (wH dD m))) (bM:av.length=m) (cH:4<=m) (fW:m<=7) (kC:∀q∈av,nq q):
  sx n p cN (Q.run ((Q.Wq (aJ (n+5)) p (.ref []) (.ref (0::0::p)) (.int (m:Nat)) (.ref (0::2::p)) (.int (CB dD m:Nat)) (.ref (5::p))).cps Q.ret) ⟨g,6⟩):=
 sp (Q.fR (qy p 3 (by decide) _))<|
 cE.drawn (ek:=λq J=>eK (aJ (n+5)) 92 FQ q J (ee Cs 0)) (R:=λv=>Nc v (.ref (0::0::p))) (s:="k") (m:=3) (Cg:=λu=>∃c:Int,u=.int c) rfl (by decide) (λU U=>rfl) (by decide) (λv g y aR=>abV (n:=n+4) (s6 (by decide)) v g y aR) λb5 f5 aI j8 cE=>by
  obtain⟨bf,rfl⟩:=WR b5 j8
  rw[fD]at aI
  exact ams (n:=n) cE bM cH fW kC aI
theorem Wb {dD:Bool} {m:Nat} {av:List (Int×Int)} (cE:dI cN p g (Ae av)) (bM:av.length=m) (cH:4<=m) (fW:m<=7) (kC:∀q∈av,nq q) {c:Int} (e:c=(CB dD m:Nat)):
  sx n p cN (Q.run ((Q.Wo (aJ (n+5)) p (.ref []) (.ref (0::0::p)) (.int (m:Nat)) (.ref (0::2::p)) (.int c)).cps Q.ret) ⟨g,5⟩):=by
 subst e
 have bk:((m:Nat):Int) -1=((m -1:Nat):Int):=by lia
 rcases dD with _|_
 .refine sp (Q.kQ (show¬((m -1:Nat):Int)<(m:Nat) -1 by lia))<|sp (aT:=⟨g.set (5::p) (.list [.int ((m -1:Nat):Int)]),6⟩) (v:=.ref (5::p)) (by rw[<-bk];rfl) ?_
  exact V9 (dD:=false) (cE.up (t:=[5]) (o:=.list ((wH false m).map bZ)) rfl rfl) bM cH fW kC
 .refine sp (Q.j_ (show((m/2 -1:Nat):Int)<(m:Nat) -1 by lia))<|sp (aT:=⟨g.set (5::p) (.list [.int ((m/2 -1:Nat):Int),.int ((m -1:Nat):Int)]),6⟩) (v:=.ref (5::p)) (by rw[<-bk];rfl) ?_
  exact V9 (dD:=true) (cE.up (t:=[5]) (o:=.list ((wH true m).map bZ)) rfl rfl) bM cH fW kC
theorem dI.down {K:List Nat->Option cw} {o:cw} (cE:dI cN p g (mE K t o)) (h:K t=none):dI cN p g K:=⟨cE.nil,cE.qx,λx gM e=>cE.all x gM (by
 unfold mE
 cases q:BE x t
 .exact e
 .rw[WD q,h]at e;cases e)⟩
theorem amA {t:Int} (cE:dI cN p g λU=>none) (bY:t=(m:Nat)) (cH:4<=m) (fW:m<=7):
  sx n p cN (Q.run ((Q.Wn (aJ (n+5)) p (.ref []) (.ref (0::0::p)) (.int t)).cps Q.ret) ⟨g,2⟩):=by
 subst bY
 refine sp (Q.fR (qy p m (dg fW (by decide)) _))<|
  cE.drawn (ek:=λq J=>eK (aJ (n+5)) 95 FP q J (ee Cr 0)) (R:=λv=>Nb v (.ref (0::0::p))) (s:="k") (Cg:=λu=>∃q:Int×Int,u=e9 q/\nq q) rfl (by decide) (λU U=>rfl) (dg fW (by decide)) (λv g y aR=>abW (n:=n+4) (s6 (by decide)) v g y aR) λb5 f5 aI j8 cE=>?_
 obtain⟨av,rfl,kC⟩:=WS b5 j8
 rw[fD]at aI
 refine sp (eZ (aas p m) _)<|sp (TB p _ _ f5 3) ?_
 have cE:=cE.up (t:=[3]) (o:=.list [.int ((m:Nat) -1),.int ((m/2:Nat) -1)]) rfl rfl
 obtain⟨a,b,aR⟩:=cE.qx
 obtain⟨v,a,b,e,bJ⟩:=af8 (n:=n+3) (k:=4) aR (s6 (by decide)) (cE.all [3] _ rfl) (λz=>Dt z.symm) (show 0<2 by decide) (show 2<1000 by decide)
 refine sp e ?_
 have cE:=(cE.take (a:=a) (b:=b) rfl).down rfl
 rcases List.mem_cons.mp bJ with rfl|bJ
 .exact Wb (dD:=false) cE aI cH fW kC (by show _=((m -1:Nat):Int);lia)
 .rw[List.mem_singleton.mp bJ]
  exact Wb (dD:=true) cE aI cH fW kC (by show _=((m/2 -1:Nat):Int);lia)
theorem ala {l:List Int} (u9:h []=some (.k4 cN)) (aI:sJ cN=some l) (hz:l.length<=63):sx n p cN (body (aJ (n+5)) p 1385 [.ref []] ⟨h,0⟩):=by
 rw[Q.anN,<-Q.DY]
 obtain⟨a,b,e⟩:=aga (n:=n+4) (p:=p) (k:=0) u9 aI hz
 have cE:dI cN p (h.set (0::0::p) (.list [.int a,.int b])) λU=>none:=⟨(dP λz=>by cases z).trans u9,⟨a,b,cP⟩,λU U e=>by cases e⟩
 exact sp e<|cE.draw (n:=n+4) rfl (by decide) (by decide) (by decide) λv f5 bJ cE=>amA (m:=4+v) cE (by lia) (by lia) (by lia)
end
section
theorem WT (az:fH 3 C.h a=some d) (aE:fH 3 C.h b=some d) (cK:PyData.eqv d d=true):tD a b C=some (true,C):=by
 unfold tD
 rw[az,aE]
 dsimp only
 rw[cK]
theorem Rl {r s:ay} (az:fH 3 C.h (.ref r)=some d) (aE:fH 3 C.h (.ref s)=some d) (cK:PyData.eqv d d=true):dX .Eq (.ref r) (.ref s) C=some (true,C):=WT az aE cK
theorem MK {r s:ay} (az:fH 3 C.h (.ref r)=some d) (aE:fH 3 C.h (.ref s)=some d) (cK:PyData.eqv d d=true):dX .NotEq (.ref r) (.ref s) C=some (false,C):=by
 show Y (tD _ _) _ C=_
 simp only[Y,WT az aE cK,ai,Ji]
theorem Ge:∀l:List Int,PyData.eqvAll (l.map PyData.int) (l.map PyData.int)=true
 |[]=>rfl
 |i::l=>by
  have:=Ge l
  simp only[nN,PyData.eqvAll,PyData.eqv,qE,Jk,this]
noncomputable def F5 (q:Int×Int):PyData:=.tuple [.int q.1,.int q.2]
noncomputable def F4 (q:Bool×Bool):PyData:=.list [.bool q.1,.bool q.2]
theorem Rn:∀l:List (Int×Int),PyData.eqvAll (l.map F5) (l.map F5)=true
 |[]=>rfl
 |q::l=>by
  have:=Rn l
  simp only[nN,PyData.eqvAll,F5,PyData.eqv,qE,Bool.and_true,this]
theorem Rm:∀l:List (Bool×Bool),PyData.eqvAll (l.map F4) (l.map F4)=true
 |[]=>rfl
 |q::l=>by
  have:=Rm l
  simp only[nN,PyData.eqvAll,F4,PyData.eqv,qE,Bool.and_true,this]
theorem F6 {r:ay} (aQ:h r=some (.list aa)) (hd:fH.kX (fH m h) aa=some fZ):fH (m+1) h (.ref r)=some (.list fZ):=by
 show(match h r with|some (.list aa)=>(fH.kX (fH m h) aa).map PyData.list|_=>none)=_
 rw[aQ];dsimp only;rw[hd];rfl
theorem KN:∀aa fZ,aa.length=fZ.length->(∀(i:Nat) v d,aa[i]?=some v->fZ[i]?=some d->f v=some d)->fH.kX f aa=some fZ
 |[],[],_,_=>rfl
 |[],_::_,h,_=>by simp at h
 |_::_,[],h,_=>by simp at h
 |v::aa,d::fZ,h,bD=>by
  have ih:=KN aa fZ (by simpa using h) λi v d a b=>bD (i+1) v d (by simpa using a) (by simpa using b)
  have cj:=bD 0 v d rfl rfl
  show(match f v,fH.kX f aa with|some d,some fZ=>some (d::fZ)|_,_=>none)=_
  rw[cj,ih]
theorem Aw {r:ay} {l:List Int} (aQ:h r=some (.list (l.map I.int))):fH 3 h (.ref r)=some (.list (l.map PyData.int)):=F6 aQ (KO l)
theorem Q2 {r:ay} {l:List (Int×Int)} (aQ:h r=some (.list (l.map e9))):fH 3 h (.ref r)=some (.list (l.map F5)):=
 F6 aQ (KN _ _ (by simp) λi v d a b=>by
  rw[jI]at a b
  obtain⟨q,Z,rfl⟩:=Option.map_eq_some_iff.mp a
  rw[Z]at b
  cases b
  rfl)
theorem Q1 {r:ay} {f:Nat->ay} {l:List (Bool×Bool)} (aQ:h r=some (.list (iE f l.length))) (bD:∀i q,l[i]?=some q->h (f i)=some (.list [.bool q.1,.bool q.2])):fH 3 h (.ref r)=some (.list (l.map F4)):=
 F6 aQ (KN _ _ (by simp[iE]) λi v d a b=>by
  rw[jI]at b
  obtain⟨q,Z,rfl⟩:=Option.map_eq_some_iff.mp b
  have iY:=(List.getElem?_eq_some_iff.mp Z).1
  rw[DP iY]at a
  cases a
  exact F6 (bD i q Z) rfl)
theorem abp {R:I->aL} {r:ay} (cC:∀w v,(R w).put s v=R v) (aQ:h r=some (.list aa)) (kO:¬(k::p)<:+r) (gD:aa.length<900) (aeN:zN.length=aa.length)
  (nB:∀(i:Nat) v u g y,aa[i]?=some v->zN[i]?=some u->dz (k::p) h g->∃lU,ek (k::p) (R v) ⟨g,y⟩=some (u,⟨g,lU⟩)) (w):
  ∃g,jZ p (λU U=>ai true) ek s (.ref r) (R w) ⟨h,k⟩=some (.ref (0::k::p),⟨g,k+1⟩)/\g (0::k::p)=some (.list zN)/\dz (k::p) h g:=by
 refine iu λaH ez=>?_
 obtain⟨b5,g,y,az,⟨rfl,aE,b8⟩,_⟩:=QN (aS:=λj b5 g y=>b5=zN.take j/\g (0::k::p)=some (.list b5)/\dz (k::p) h g) cC (LO aQ)
  (λj b5 g y dJ=>MQ ((dJ.2.2 _ kO).trans aQ) j)
  (λj b5 g y aW j8 dJ=>by
   obtain⟨rfl,yM,yN⟩:=dJ
   have Si:j<zN.length:=by omega
   obtain⟨lU,e⟩:=nB j aa[j] zN[j] g y (h7 aW) (h7 Si) yN
   refine⟨zN[j],g,lU,e,yM,?_,cP,yN.set ⟨[0],rfl⟩ _⟩
   rw[EE,h7 Si];rfl) gD ⟨rfl,cP,(dz.refl _ _).set ⟨[0],rfl⟩ _⟩ w
 refine ez ?_
 exact⟨g,az,by rw[aE,<-aeN,Jc],b8⟩
theorem alw {q r:ay} (aQ:h r=some (.list xs)) (hz:xs.length<=100):jk q "tuple" [.ref r] ⟨h,x⟩=some (.tup xs,⟨h,x⟩):=by
 show Y (obj r) _ _=_
 simp only[Y,obj,jb,aQ]
 rw[bT (by rw[lH];omega)]
 rfl
theorem RU {N:gg} (Z:c7 N q):N.g q=none:=by
 cases e:N.g q with
 |none=>rfl
 |some i=>exact absurd (List.suffix_refl q) (by rw(occs:=.pos [2]) [N.oY _ _ e];exact Z i)
end
end Mine.lK
namespace Mine.Q
noncomputable abbrev Wx (L:cy) (p:ay) (cv vG:I):bF I:=Y (eM (bP (aV (a_ (H vG) "zones") (ak 1)) (a_ (H vG) "state"))) λam5=>ie am5 λWk NU=>b7 (Y (b_ .NotEq (a_ (H Wk) "current") (Y (aV (H cv) (ns "now")) λam7=>pr (rI L p 78 KC FE "p" am7 (Vz .undef)))) λNV=>ite NV (ai true) (Y (b_ .NotEq (a_ (H Wk) "touched") (aV (H cv) (ns "touched"))) λNW=>ite NW (ai true) (b_ .NotEq (a_ (H vG) "cvt") (aV (H cv) (ns "cvt"))))) (ai (.bool false)) (Y (ki .Eq (e_ p (dF (a_ (H NU) "rp0") (a_ (H NU) "rp1") (a_ (H NU) "rp2"))) (aV (H cv) (ns "rp"))) λID=>Y (truth ID) λam8=>ite am8 (ki .Eq (a_ (a_ (H vG) "stack") "numbers") (aV (H cv) (ns "told"))) (ai ID))
noncomputable abbrev Ww (L:cy) (p:ay) (aK bg bS cv BB:I):bF I:=Y (ck L p (fN 1230) (bP (e_ p (bP (ck L p (fN 1272) (bh (Y (ai []) (iK p)))) (ck L p (fN 1272) (bP (H aK) (H bg))))) (H bS))) λvG=>eH (cQ L p (ck L p (fN 279) (jw (H BB) (H vG) (bC L p 1078 (ai [])) (ck L p (fN 103) (ai [])))) "run" (ai [])) (Wx L p cv vG)
noncomputable abbrev Wu (L:cy) (p:ay) (aK bg bS cv dc IA:I):bF I:=Y (aU p .Add (aU p .Add (H dc) (bC L p 1302 (bh (e_ p (bh (H IA)))))) (ck L p (ai (.type "bytes")) (bh (e_ p (bh (aU p .Add (ak 192) (ak 16))))))) λBB=>Ww L p aK bg bS cv BB
noncomputable abbrev Wv (L:cy) (p:ay) (aB aK bg bS cv dc:I):bF I:=Y (aU p .Mod (aU p .Add (aV (aV (H cv) (ns "rp")) (ak 0)) (ak 1)) (H aB)) λIA=>eH (bC L p 1344 (jw (H cv) (H IA) (ai .none) (ak 16))) (Wu L p aK bg bS cv dc IA)
theorem an4:A1 L p (zy X ah aB aK aX bg bS cv dc eY fL gX ir gY kI)=(Wv L p aB aK bg bS cv dc).bB:=by kernel_rfl
end Mine.Q
namespace Mine.lK
section
theorem abe {N:gg} {af:eT} {B:fF} {K:Nat} (qX:∀i o,cont vX B i=some o->F (vX.f i)=some o) (gx:∀i o,oF N af i=some o->(∀r,i≠.ex r)->F (N.f i)=some o)
  (jj:∀i j,K<=j->¬(j::p)<:+vX.f i) (iB:∀i j,K<=j->¬(j::p)<:+N.f i) (sV:∀j,K<=j->¬(j::p)<:+af.eE) (e:B.t=af.t) (cI:F af.eE=some (.list [bZ af.t.cI,bZ af.t.cT,bZ af.t.dO])) (aI:af.t.now.length<=7) (nil:F []=some (.k4 cN)):
  ∃C,Q.run ((Q.Wx (aJ (n+10)) p (.ref (N.f .own)) (.ref (vX.f .work))).cps Q.ret) ⟨F,K⟩=some (.bool true,C)/\C.h []=some (.k4 cN):=by
 refine iu λaH ez=>?_
 obtain⟨cZ,ab4,X0,HL⟩:=abp (ek:=λq J=>eK (aJ (n+10)) 78 KC q J (ee FE 0)) (s:=("p":Str)) (zN:=af.t.now.map e9) (λU U=>rfl) (gx .now _ rfl λU z=>nomatch z) (iB .now K (fu _)) (by rw[iE,fD,uB];exact dg aI (by decide)) (by rw[iE,fD,fD,uB])
  (λi v u g y az aE b8=>by
   rw[jI]at aE
   obtain⟨q,bk,rfl⟩:=Option.map_eq_some_iff.mp aE
   rw[DP (List.getElem?_eq_some_iff.mp bk).1]at az
   cases az
   exact⟨y,Q.iF (Q.aa7 _ _ _) (Q.bx (Q.fR (alw ((b8 _ (iB (.n6 i) K (fu _))).trans (gx (.n6 i) (.list (s_ q)) (cJ (Option.map λq=>cw.list (s_ q)) bk) λU z=>nomatch z)) (show 2<=100 by decide))) rfl)⟩) .undef
 have pS:∀i o,cont vX B i=some o->cZ (vX.f i)=some o:=λi o h=>(HL _ (jj i K (fu _))).trans (qX i o h)
 have AK:∀i o,oF N af i=some o->(∀r,i≠.ex r)->cZ (N.f i)=some o:=λi o h fJ=>(HL _ (iB i K (fu _))).trans (gx i o h fJ)
 have ve:∀{r:ay} o,¬((K+1)::p)<:+r->(cZ.set ((K+1)::p) o) r=cZ r:=λo aQ=>dP (cu aQ)
 have CH:∀gM i o,cont vX B i=some o->(cZ.set ((K+1)::p) gM) (vX.f i)=some o:=λgM i o h=>(ve gM (jj i _ (jV _))).trans (pS i o h)
 have K8:∀gM i o,oF N af i=some o->(∀r,i≠.ex r)->(cZ.set ((K+1)::p) gM) (N.f i)=some o:=λgM i o h fJ=>(ve gM (iB i _ (jV _))).trans (AK i o h fJ)
 refine ez ?_
 refine⟨⟨cZ.set ((K+1)::p) (.list [.int B.t.cI,.int B.t.cT,.int B.t.dO]),K+1+1⟩,?_,?_⟩
 .exact Q.bx (mP (qX .work _ rfl) (qX .ux _ rfl) rfl rfl rfl rfl)<|Q.bx (jz (qX .xM _ rfl) rfl (by decide))<|Q.bx (mP (qX .work _ rfl) (qX .ux _ rfl) rfl rfl rfl rfl)<|
   Q.bx (mP (qX .cR _ rfl) (qX .zQ _ rfl) rfl rfl rfl rfl)<|Q.bx (vd (gx .own _ rfl λU z=>nomatch z) rfl)<|Q.bx ab4<|Q.bx (Q.iC (MK (Q2 (by rw[<-e];exact pS .cur _ rfl)) (Q2 X0) (Rn _)))<|
   Q.bx (mP (pS .cR _ rfl) (pS .zQ _ rfl) rfl rfl rfl rfl)<|Q.bx (vd (AK .own _ rfl λU z=>nomatch z) rfl)<|Q.bx (Q.iC (MK
    (Q1 (by rw[<-e];exact pS .cD _ rfl) (λi q GC=>by
     rw[<-e]at GC
     exact pS (.jF i) _ (by show(match B.t.cD[i]? with|some q=>some (cw.list [.bool q.1,.bool q.2])|none=>none)=_;rw[GC])))
    (Q1 (AK .cD _ rfl λU z=>nomatch z) (λi q GC=>AK (.jF i) _ (cJ (Option.map λq=>cw.list (uP q)) GC) λU z=>nomatch z)) (Rm _)))<|
   Q.bx (mP (pS .work _ rfl) (pS .ux _ rfl) rfl rfl rfl rfl)<|Q.bx (vd (AK .own _ rfl λU z=>nomatch z) rfl)<|Q.bx (Q.iC (MK (Aw (by rw[<-e];exact pS .bf _ rfl)) (Aw (AK .bf _ rfl λU z=>nomatch z)) (Ge _)))<|
   Q.bx (mP (pS .state _ rfl) (pS .ru _ rfl) rfl rfl rfl rfl)<|Q.bx (mP (pS .state _ rfl) (pS .ru _ rfl) rfl rfl rfl rfl)<|Q.bx (mP (pS .state _ rfl) (pS .ru _ rfl) rfl rfl rfl rfl)<|Q.bx (TF p _ _ _ _ _)<|
   Q.bx (vd (K8 _ .own _ rfl λU z=>nomatch z) rfl)<|Q.bx (Q.iC (Rl (Aw (by rw[<-e];exact cP)) (Aw (l:=[af.t.cI,af.t.cT,af.t.dO]) ((ve _ (sV _ (jV _))).trans ((HL _ (sV _ (fu _))).trans cI))) (Ge _)))<|
   Q.bx (mP (CH _ .work _ rfl) (CH _ .ux _ rfl) rfl rfl rfl rfl)<|Q.bx (mP (CH _ .stack _ rfl) (CH _ .BA _ rfl) rfl rfl rfl rfl)<|Q.bx (vd (K8 _ .own _ rfl λU z=>nomatch z) rfl)<|
   Q.bx (Q.iC (Rl (Aw (l:=af.t.told) (by rw[<-e];exact CH _ .nums _ rfl)) (Aw (K8 _ .told _ rfl λU z=>nomatch z)) (Ge _))) rfl
 .exact(ve (.list [.int B.t.cI,.int B.t.cT,.int B.t.dO]) (λz=>by simp at z)).trans ((HL _ (λz=>by simp at z)).trans nil)
def Jw (cN:Obj) (R:Option (I×bL)):Prop:=∃C,R=some (.bool true,C)/\C.h []=some (.k4 cN)
theorem VJ (aI:l≠[]) (j8:WQ l=none):(rW y p kL h o4).g (jm y p l)=none:=ahX (λi fQ z=>by
 have:=H_ aI fQ z
 rcases zL i with⟨d,_⟩|⟨_,d⟩
 .exact fQ d
 .rw[<-this,j8]at d;cases d) (DG y p l)
theorem amy {N:gg} {af:eT} {h:bl} {pr jO kL:ay} (bM:av.length=m) (fW:m<=7) (rR:uI ao m) (nB:ao.length<=100) (O:(mK av bf).Ok m) (c8:aH=kM ao (mK av bf) l) (ad2:aH.length<=100000) (bJ:∀z∈l,z.Valid m) (aI:l.length<=20)
  (aeC:h pr=some (.list (av.map e9))) (aeD:¬d_ p y pr) (aej:h jO=some (.list (ao.map bZ))) (aek:¬d_ p y jO) (Gy:h kL=some (.list (bf.map I.int))) (yE:¬d_ p y kL)
  (oz:∀i o,oF N af i=some o->(∀r,i≠.ex r)->h (N.f i)=some o/\N.f i≠kL) (wV:∀i,¬d_ p y (N.f i)) (r9:h af.eE=some (.list [bZ af.t.cI,bZ af.t.cT,bZ af.t.dO])) (VQ:¬d_ p y af.eE) (alO:af.eE≠kL) (aeH:rt ao (mK av bf) l=af.t) (nil:h []=some (.k4 cN)) (ai9:¬d_ p y []) (Dv:[]≠kL) (aeA:af.t.now.length<=7):
  Jw cN (Q.run ((Q.Ww (aJ (n+10)) p (.ref pr) (.ref jO) (.ref kL) (.ref (N.f .own)) (.bytes aH)).cps Q.ret) ⟨h,y⟩):=by
 refine ah1 (n:=n+6) aH (by rw[bM];exact d5 fW (by decide)) nB aeC aeD aej aek Gy yE λjj iB sV ahT ahU apE ia ahV E3 Aa Xn Xo Xp Xq Xr Xs Af aaR alD als=>?_
 refine sp E3<|sp Aa<|sp Xn<|sp Xo<|sp Xp<|sp Xq<|sp Xr<|sp Xs ?_
 rw[<-aie aaR]
 have Dd:∀j,y+18<=j->c4 (rW y p kL h yE) (j::p):=λj aW=>ahW aW
 have cQ:lM (rW y p kL h yE) ((y+18)::p) aH ao m 0 (mK av bf) 1 0 ahV (xA y p av ao bf aH) 0:=
  ⟨⟨rfl,rfl,ad2⟩,rfl,rfl,rfl,rR,Int.le_refl _,O,1::0::2::(y+10)::p,alD,als,VJ (l:=[10,2,0,2]) (rC _ _) rfl,VJ (l:=[10,2,0,1]) (rC _ _) rfl,λj U=>⟨r6 (UN (qG (rB (by decide) y))),r6 (UN (qG (rB (by decide) y)))⟩⟩
 obtain⟨s,G,B,R,j6,Re⟩:=alR (Dd _ (fu _)) fW c8 cQ bJ (by show 0+l.length<=20;rw[mH];exact aI)
 refine sp (Up (g7 (i:=.mT) rfl) (g7 rfl) rfl rfl rfl)<|sp (Q.c_ rfl R) ?_
 have L2:∀r o,h r=some o->¬d_ p y r->r≠kL->aq (rW y p kL h yE) G B r=some o:=λr o bk bK gJ=>by
  have bE:nS y p kL h r=some o:=by
   unfold nS
   rw[bX (λz=>z.elim bK gJ)];exact bk
  have:=g7 (N:=rW y p kL h yE) (G:=G) (B:=B) (i:=.ex r) bE
  rw[show(rW y p kL h yE).f (.ex r)=r from bT (by rw[bE];rfl)]at this
  exact this
 have cE:∀j,y+19<=j->y<=j:=λj aW=>d5 (gQ y 19) aW
 exact abe (n:=n) (K:=y+19) (N:=N) (vX:=rW y p kL h yE) (af:=af) (λi o e=>g7 e) (λi o e fJ=>L2 _ _ (oz i o e fJ).1 (wV i) (oz i o e fJ).2) (λi j aW=>Dd j (OX aW) i) (λi j aW=>lz (wV i) (cE j aW)) (λj aW=>lz VQ (cE j aW)) (j6.trans aeH) (L2 _ _ r9 VQ alO) aeA (L2 _ _ nil ai9 Dv)
end
section
variable {N:gg} {G:bl} {B:eT}
theorem agB (Z:∀y,x<=y->c7 N (y::p)) (Gm:∀r,N.ex r≠none->N.f (.ex r)=r) (jo:N.ex pr=some (.list (av.map e9))) (AA:N.ex jO=some (.list (ao.map bZ))) (wF:N.ex kL=some (.list (bf.map I.int))) (Gb:N.ex []=some (.k4 cN)) (Dv:[]≠kL)
  (bM:av.length=m) (fW:m<=7) (rR:uI ao m) (O:(mK av bf).Ok m) (GB:i<m) (aI:l.length<=10) (M:v_ N p m ao rows (mK av bf) x l G B) {af:eT} (b6:af.t=fT.apply ao B.t (.mU i 16)) (Nz:af.eE=j::x::p) (Ny:(fT.apply ao B.t (.mU i 16)).Ok m) (j4:fT.Valid m (.mU i 16)):
  Jw cN (Q.run ((Q.Wu (aJ (n+10)) p (.ref pr) (.ref jO) (.ref kL) (.ref (N.f .own)) (.bytes (kM ao (mK av bf) l)) (.int i)).cps Q.ret) ⟨aF N (DW G (j::x::p) af.t) af,x+1⟩):=by
 have gx:=RU (Z _ (jV _))
 have jf:=RU (Z _ (gQ _ 3))
 obtain⟨z9,wR⟩:∃z9,(DW G (j::x::p) af.t).set ((x+1)::p) (.list [.int i])=z9:=⟨_,rfl⟩
 obtain⟨vV,AM⟩:∃vV,z9.set ((x+3)::p) (.list [.int (192+16)])=vV:=⟨_,rfl⟩
 have ek:=KT ao l (mK av bf) M.valid
 have ek:=d5 ek (OS 70 aI)
 have pn:=xr [cY i] (show 1<=10 by decide)
 have u9:∀i,¬d_ p (x+4) (N.f i):=λi z=>by
  obtain⟨t,c,az,aE⟩:=z
  exact Z c (d5 (gQ x 4) az) i (by rw[aE];exact⟨t,rfl⟩)
 have wX:∀{r:ay} {o:cw},N.ex r=some o->aF N vV af r=some o/\¬d_ p (x+4) r:=λ{r o} e=>by
  have f:=Gm r (by rw[e];exact I6 _)
  have a:=jB (G:=vV) (B:=af) (i:=.ex r) e
  rw[f]at a
  exact⟨a,f▸u9 (.ex r)⟩
 have Ry:=Gm kL (by rw[wF];exact I6 _)
 have q0:=MT (B:=af) (i:=.ex kL) (show N.ex kL=_ from wF)
 have zv:=gN (Z x (fu _)) j
 refine sp ((Mf p _ _ _).trans (by rw[HW gx,wR]))<|
  sp (UT (n:=n+9) (ns:=[cY i]) (Z _ (gQ _ 2)) gx (by rw[<-wR];exact cP) (zg (qG (xQ _))) (show 0<1 by decide) (show 1<=10 by decide))<|
  sp (wo p (kM ao (mK av bf) l) (gz [cY i]) (dg (mG ek pn) (by decide)) _)<|
  sp (aT:=⟨aF N vV af,x+4⟩) ((Mf p _ _ _).trans (by rw[HW jf,AM]))<|
  sp (Q.fR (Cp (l:=[208]) jf (by rw[<-AM];exact cP) (λz hz=>by rw[List.mem_singleton.mp hz];decide) (by decide)))<|
  sp (wo p (kM ao (mK av bf) l++gz [cY i]) [208] (by rw[gO];exact dg (mG (mG ek pn) (fu 1)) (by decide)) _) ?_
 have apt:=rR.1
 refine amy (n:=n) (af:=af) (l:=l++[.mU i 16]) bM fW rR (by lia) O ?_ ?_ ?_ ?_ (wX jo).1 (wX jo).2 (wX AA).1 (wX AA).2 (wX wF).1 (wX wF).2 (λi o e fJ=>⟨jB e,λz=>?_⟩) u9 ?_ ?_ ?_ ?_ (wX Gb).1 (wX Gb).2 Dv ?_
 .rw[KS,<-M.tt]
  simp[kM,fT.enc]
 .rw[gO,gO]
  exact d5 (mG (mG ek pn) (fu 1)) (by decide)
 .exactλz hz=>(List.mem_append.mp hz).elim (M.valid z) λhz=>by rw[List.mem_singleton.mp hz];exact j4
 .rw[gO];exact d5 (mG aI (fu 1)) (by decide)
 .have wO:=MT (N:=N) (B:=af) e
  rw[z,<-Ry,q0]at wO
  exact fJ _ (iH wO).symm
 .rw[Nz,kE zv,<-AM,dP Dt,<-wR,dP Dt];exact cP
 .rw[Nz];exact HF [j] (ER (by decide))
 .rw[Nz];intro z;rw[Ry,<-z,zv]at q0;cases q0
 .rw[ND,<-M.tt,b6];rfl
 .rw[b6];exact d5 (ng Ny.fit.now) fW
end
section
variable {N:gg} {G:bl} {B:eT}
theorem agC (Z:∀y,x<=y->c7 N (y::p)) (Gm:∀r,N.ex r≠none->N.f (.ex r)=r) (jo:N.ex pr=some (.list (av.map e9))) (AA:N.ex jO=some (.list (ao.map bZ))) (wF:N.ex kL=some (.list (bf.map I.int))) (Gb:N.ex []=some (.k4 cN)) (Dv:[]≠kL)
  (bM:av.length=m) (cH:4<=m) (fW:m<=7) (rR:uI ao m) (O:(mK av bf).Ok m) (aI:l.length<=10) (M:v_ N p m ao rows (mK av bf) x l G B) (jd BG w fS):
  ∃aT,A1 (aJ (n+10)) p (xw N (.ref []) m (.ref pr) jd (.ref jO) (.ref kL) (.bytes (kM ao (mK av bf) l)) BG w fS) ⟨aF N G B,x⟩=some (.bool true,aT)/\aT.h []=some (.k4 cN):=by
 obtain⟨rm,Bh⟩:=NF ao l (mK av bf) O M.valid
 rw[<-M.tt]at rm Bh
 have R2:0<m:=lW (by decide) cH
 obtain⟨i,aj⟩:∃i:Nat,i=(B.t.cI+1)%m:=⟨_,rfl⟩
 have GB:i<m:=by rw[aj];exact EM _ R2
 have ic:fk p .Mod (.int ((B.t.cI:Nat)+1)) (.int m)=ai (.int i):=by
  rw[J7 (Int.natCast_ne_zero.mpr (zV R2)),xO _ (BX m),aj]
  rfl
 obtain⟨j,b4⟩:=US (Z x (fu _)) M.r9 rm.fit rm.code GB rm.d4 (g:=16) (by decide)
 have j4:fT.Valid m (.mU i 16):=⟨GB,by decide⟩
 have Ny:=JS ao rm (.mU i 16) j4
 have key:Jw cN (Q.run ((Q.Wv (aJ (n+10)) p (.int (m:Nat)) (.ref pr) (.ref jO) (.ref kL) (.ref (N.f .own)) (.bytes (kM ao (mK av bf) l))).cps Q.ret) ⟨aF N G B,x⟩):=sp (vd (jB rfl) rfl)<|sp (xx M.r9 x).1<|sp (eZ ic _)<|sp b4<|
  agB Z Gm jo AA wF Gb Dv bM fW rR O GB aI M rfl rfl Ny j4
 exact key.imp λC h=>⟨(eZ Q.an4 _).trans ((Q.DY _ _).symm.trans h.1),h.2⟩
end
end Mine.lK
namespace Mine
noncomputable def KA (K:Frag) (P:Params) (p:Addr×Jt):Bool:=
 plainGet K p.1 Str.empty&&hasDictIn K p.1&&(findIn K (.ref p.1) "__setattr__"==some (some (.builtin "object.__setattr__")))&&plainOver K p.1&&makesIn K p.1&&
 (findIn K (.ref p.1) "__init__"==some (some (.ref p.2.init)))&&(typeIn K (.ref p.2.init)==some (.type "function"))&&keepIn K (.ref p.1)&&
 p.2.meths.all (λm=>(findIn K (.ref p.1) m.1==some (some (.ref m.2)))&&isFn K (.ref m.2))&&
 Fj.all (λx=>findIn K (.ref p.1) x==some none)
theorem abc (P:Params):(jc.map λp=>KA (gb P) P p)=jc.map λU=>true:=by kernel_rfl
theorem agp (P:Params):(iA.map λp=>keepIn (gb P) (.ref p.1))=iA.map λU=>true:=by kernel_rfl
section
set_option tactic.hygienic true in
theorem Fp {r:ef×bL} (e:Y m f C=some r):∃a aG,m C=some (a,aG)/\f a aG=some r:=by
 unfold Y at e
 split at e
 .rename_i a aG q;exact⟨a,aG,q,e⟩
 .nomatch e
theorem rq {r:b9×bL} (e:ai a C=some r):r=(a,C):=by nomatch e;rfl
set_option tactic.hygienic true in
theorem UY {r:ay} (e:obj r C=some q):∃o,C.h r=some o/\q=(o,C):=by
 unfold obj at e
 split at e
 .rename_i o h;nomatch e;exact⟨o,h,rfl⟩
 .nomatch e
theorem Df (e:gU o C=some q):∃a,o=some a/\q=(a,C):=by
 induction o with
 |none=>nomatch e
 |some a=>nomatch e;exact⟨a,rfl,rfl⟩
theorem LM [Decidable c] (e:(if c then m else no) C=some q):c/\m C=some q:=by
 split at e
 .exact⟨‹_›,e⟩
 .nomatch e
theorem eS {r:ef×bL} {P:Prop} (e:Y m f C=some r) (k:∀a aG,m C=some (a,aG)->f a aG=some r->P):P:=let⟨a,aG,x,y⟩:=Fp e;k a aG x y
@[elab_as_elim] theorem d7 {a r:b9} {P:b9->Prop} (e:some a=some r) (k:P a):P r:=iH e▸k
@[elab_as_elim] theorem pA {a:b9} {C:bL} {r:b9×bL} {P:b9×bL->Prop} (e:ai a C=some r) (k:P (a,C)):P r:=d7 (P:=P) e k
theorem n5 {r:b9×bL} {P:Prop} (e:(no:aD b9) C=some r):P:=nomatch e
theorem gE [Decidable c] {P:Prop} (e:(if c then m else no) C=some q) (k:c->m C=some q->P):P:=let⟨x,y⟩:=LM e;k x y
theorem l_ [Decidable c] {P:Prop} (e:(if decide c then m else no) C=some q) (k:c->m C=some q->P):P:=let⟨x,y⟩:=LM e;k (kJ x) y
theorem Dw [Decidable c] {P:Prop} (e:(if c then no else m) C=some q) (k:¬c->m C=some q->P):P:=by
 split at e
 .nomatch e
 .exact k ‹_› e
theorem ud {r:ay} {P:Prop} (e:Y (obj r) f C=some q) (k:∀o,C.h r=some o->f o C=some q->P):P:=by
 obtain⟨o,aG,bk,e⟩:=Fp e
 obtain⟨gM,h,q⟩:=UY bk
 nomatch q
 exact k o h e
theorem o7 {r:ay} {P:Prop} (e:Y (obj r) (jb f) C=some q) (k:∀xs,C.h r=some (.list xs)->f xs C=some q->P):P:=
 ud e λo h e=>by nomatch o<;>first|exact k _ h e|nomatch e
theorem GL {r:ay} {P:Prop} (e:Y (obj r) (wg f) C=some q) (k:∀xs,C.h r=some (.cB xs)->f xs C=some q->P):P:=
 ud e λo h e=>by nomatch o<;>first|exact k _ h e|nomatch e
theorem NJ {r:ay} {P:Prop} (e:Y (obj r) (sF f) C=some q) (k:∀xs,C.h r=some (.jn xs)->f xs C=some q->P):P:=
 ud e λo h e=>by nomatch o<;>first|exact k _ h e|nomatch e
theorem pZ {q:ef×bL} {P:Prop} (e:Y (gU o) f C=some q) (k:∀a,o=some a->f a C=some q->P):P:=by
 obtain⟨a,aG,bk,e⟩:=Fp e
 obtain⟨dB,h,q⟩:=Df bk
 nomatch q
 exact k a h e
@[elab_as_elim] theorem G_ {P:b9×bL->Prop} (e:gU o C=some q) (k:∀a,o=some a->P (a,C)):P q:=by
 obtain⟨a,h,q⟩:=Df e
 nomatch q
 exact k a h
end
section
@[elab_as_elim] theorem lC {P:List Value->Prop} (x:fG φ h eG [a]) (k:∀r,aZ φ h r a->P [r]):P eG:=by
 cases x with|cons r x=>cases x with|nil=>exact k _ r
@[elab_as_elim] theorem BH {P:List Value->Prop} (x:fG φ h eG [a,b]) (k:∀r bV,aZ φ h r a->aZ φ h bV b->P [r,bV]):P eG:=by
 cases x with|cons r x=>exact lC x λU bV=>k _ _ r bV
end
abbrev Is (b:ef) (C:bL):ef->bL->Prop:=λfM aT=>fM=b/\aT=C
theorem mL.kP {E:Value->Shared->Prop} {R:dG->Heap->b9->ef->Prop} (h:mL R D t J C (Is b aG)) (B:bz D φ J C s) (k:∀a b3 br,R b3 br.heap a b->bz D b3 J aG br->eV D φ C s b3 aG br->Q a br):wpAny (cX D) D.A t Q E s:=
 gi (h φ s B) (λa br p=>p.k λfM b3 aT l r B q=>by obtain⟨rfl,rfl⟩:=q;exact k a b3 br r B l) λU U z=>z.elim
theorem SJ:(Value.str x t).isStr y=decide (x=y):=by
 by_cases h:x=y<;>simp[Value.isStr,h]
section
theorem JY (A:dS (B8 φ h) ao l):match l.lookup x with
  |some v=>∃aO,getL x ao=some (some aO)/\aZ φ h aO v
  |none=>getL x ao=some none:=by
 have no:ao.any (·.refKey)=false:=by
  clear x
  induction A with
  |nil=>rfl
  |cons r _ ih=>
   obtain⟨⟨t,e⟩,_⟩:=r
   rw[List.any_cons,ih]
   simp[DictEntry.refKey,e]
 have:match l.lookup x with
  |some v=>∃e,ao.find? (·.key.isStr x)=some e/\aZ φ h e.val v
  |none=>ao.find? (·.key.isStr x)=none:=by
  clear no
  induction A with
  |nil=>rfl
  |@cons e q ao l r _ ih=>
   obtain⟨y,v⟩:=q
   obtain⟨⟨t,Gd⟩,aO⟩:=r
   rw[List.lookup_cons,List.find?_cons,Gd,SJ]
   by_cases q:x=y
   .subst q
    simp only[qE,qH]
    exact⟨e,rfl,aO⟩
   .have xt:(x==y)=false:=by simpa using q
    have iM:decide ((y,v).1=x)=false:=by simpa using λz=>q z.symm
    rw[xt,iM]
    exact ih
 unfold getL
 cases aI:l.lookup x with
 |some v=>
  rw[aI]at this
  obtain⟨e,cK,r⟩:=this
  exact⟨e.val,by rw[cK],r⟩
 |none=>
  rw[aI]at this
  show _=_
  rw[show ao.find? (·.key.isStr x)=none from this]
  simp[no]
theorem Yr (A:dS (B8 φ h) ao l) (r:aZ φ h aO v):dS (B8 φ h) (putL x aR (.str x t) aO ao) (g9 l x v):=by
 induction A with
 |nil=>exact .cons ⟨⟨t,rfl⟩,r⟩ .nil
 |@cons e q ao l bV Xg ih=>
  obtain⟨y,u⟩:=q
  obtain⟨⟨f9,Gd⟩,Bx⟩:=bV
  unfold putL g9
  rw[Gd,SJ]
  by_cases q:y=x
  .subst q
   simp only[qH,jW,qE]
   exact .cons ⟨⟨f9,rfl⟩,r⟩ Xg
  .have xt:(y==x)=false:=by simpa using q
   have iM:decide ((y,u).1=x)=false:=by simpa using q
   rw[xt,iM]
   exact .cons ⟨⟨f9,Gd⟩,Bx⟩ ih
end
theorem M4 (x) (aR) (k v):∀ao:List DictEntry,(putL x aR k v ao).length<=ao.length+1
 |[]=>by simp[putL]
 |e::ao=>by
  unfold putL
  split
  .simp
  .have:=M4 x aR k v ao;simp;omega
section
theorem abb (h:p∈jc):KA (gb P) P p=true:=by
 obtain⟨i,e⟩:=OQ h
 exact y_ (abc P) e
theorem K1 (h:iA.lookup a=some f):keepIn (gb P) (.ref a)=true/\(gb P).lookup a=some (Ca f (H8 (vp P a)) (.ref (a -1)) (CD (vp P a)))/\codeIn (gb P) (.ref (a -1)) f.qual=true:=by
 obtain⟨i,e⟩:=OQ (rY h)
 exact⟨y_ (agp P) e,adw P i e⟩
@[elab_as_elim] theorem LD {r d:ay} {P:Value->Prop} (B:bz D φ J C s) (az:C.h r=some (.inst aH d)) (aE:C.h d=some (.attrs l)) (x:aZ φ s.heap aO (.ref r))
  (k:∀a kY ao n,φ r=some a->φ d=some kY->s.heap.get? kY=some (dictOf ao n)->dS (B8 φ s.heap) ao l->ao.length<=999->InstAt s.heap a ⟨.ref aH,some kY,.plain,#[]⟩ aH (some (dictOf ao n))->P (.ref a)):P aO:=
 x.Ni λa aY=>(B.obs _ _ az).elim λdB z=>z.2.elim λkY y=>(B.obs _ _ aE).elim λab0 w=>w.2.elim λao u=>u.elim λn u=>
  have bk:ab0=kY:=iH (w.1.symm.trans y.1)
  have bK:dB=a:=iH (z.1.symm.trans aY)
  k a kY ao n aY y.1 (bk▸u.1) u.2.1 u.2.2 ⟨bK▸y.2,rfl,rfl,bk▸u.1⟩
noncomputable def afg (F:ay->Addr->ay->List (Str×I)->aD b9) (v:I):aD b9:=match v with
 | .ref r=>Y (obj r) λ
  | .inst aH d=>Y (obj d) λ
   | .attrs l=>F r aH d l
   |_=>no
  |_=>no
 |_=>no
theorem SD {b9:Type} {F:ay->Addr->ay->List (Str×I)->aD b9} {q:b9×bL} {P:I->Prop} (e:afg F v C=some q) (k:∀r aH d l,C.h r=some (.inst aH d)->C.h d=some (.attrs l)->F r aH d l C=some q->P (.ref r)):P v:=by
 cases v with
 |ref r=>exact ud e λo bw e=>(by
   induction o with
   |inst aH d=>exact ud e λo yI e=>(by
     induction o with
     |attrs l=>exact k r aH d l bw yI e
     |_=>exact fK e)
   |_=>exact fK e)
 |_=>exact fK e
theorem QA (h:jc.lookup aH=some c):(aH,c)∈jc:=rY h
theorem adT {x:Str} {P:I->I×bL->Prop} (e:fB v x C=some q) (k:∀r aH d l u,pO x=true->q2 aH=true->t4 u=true->C.h r=some (.inst aH d)->C.h d=some (.attrs l)->l.lookup x=some u->P (.ref r) (u,C)):P v q:=
 gE e λok e=>SD (F:=λU aH U l=>if q2 aH then Y (gU (l.lookup x)) λu=>if t4 u then ai u else no else no) (P:=λv=>P v q) e λr aH d l az aE e=>gE e λaN e=>pZ e λu aI e=>gE e λdj e=>pA (P:=λq=>P (.ref r) q) e (k r aH d l u ok aN dj az aE aI)
theorem Cx (h:jc.lookup aH=some c):((((((((plainGet (gb P) aH Str.empty=true/\hasDictIn (gb P) aH=true)/\findIn (gb P) (.ref aH) "__setattr__"=some (some (.builtin "object.__setattr__")))/\plainOver (gb P) aH=true)/\makesIn (gb P) aH=true)/\
  findIn (gb P) (.ref aH) "__init__"=some (some (.ref c.init)))/\typeIn (gb P) (.ref c.init)=some (.type "function"))/\keepIn (gb P) (.ref aH)=true)/\(∀m∈c.meths,findIn (gb P) (.ref aH) m.1=some (some (.ref m.2))/\isFn (gb P) (.ref m.2)=true))/\
  ∀x∈Fj,findIn (gb P) (.ref aH) x=some none:=by
 have h:=abb (P:=P) (QA h)
 unfold KA at h
 simp only[gI,zW,Je]at h
 exact h
theorem PD (h:pO x=true):x∈Fj:=by
 unfold pO at h
 obtain⟨y,cM,e⟩:=List.any_eq_true.mp h
 exact beq_iff_eq.mp e▸cM
theorem aed (r:aZ φ h aO v) (e:t4 v=true):handedIn aO=true:=by
 induction r with
 |bi n=>exact lP e
 |undef v=>exact lP e
 |_=>rfl
theorem akG {v:I} {q:I×bL} (ok:D.Ok) (e:fB v x C=some q) (B:bz D φ J C s) (r:aZ φ s.heap aO v):wpAny (cX D) D.A (getAttr aO x true) (d6 aZ D J φ C s (Is q.1 q.2)) dR s:=
 adT (P:=λv q=>aZ φ s.heap aO v->wpAny (cX D) D.A (getAttr aO x true) (d6 aZ D J φ C s (Is q.1 q.2)) dR s) e (λw7 aH d l u aY aN dj az aE aI r=>(Option.isSome_iff_exists.mp aN).elim λc aN=>LD B az aE r λa kY ao n bk bK cK A U aS=>by
  have F:=Cx (P:=D.w.params) aN
  have f:=JY (x:=x) A
  rw[aI]at f
  exact f.elim λaO f=>get_value (B.au ok) aS (plainGet_of (name:=Str.empty) F.1.1.1.1.1.1.1.1.1).1 (findObj_own F.1.1.1.1.1.1.1.1.2 (F.2 x (PD aY)) rfl (by rw[lookIn_dict];exact f.1)) (aed f.2 dj) (.toks B _ f.2 ⟨rfl,rfl⟩)) r
end
set_option tactic.hygienic true in
theorem akd {K:Frag} {R:Result->Shared->Prop} (D:K.In s.heap)
  (aS:InstAt s.heap x ⟨.ref aH,some kY,.plain,#[]⟩ aH (some (dictOf ao n))) (cA:plainOver K aH=true) (bY:takerIn K aH name=some none) (dj:(clsIn K aH).any (·.hasDict)=true)
  (aI:(getL name ao).isSome=true) (hz:ao.length+1<=1000)
  (h:R (.ok (.ret .none)) {s with heap:=s.heap.update kY (Obj.putName name (PyData.keyHash w.params name) (.str name s.toks) v),toks:=s.toks+1}):
  codeAny (model prog w) A (.call (.builtin "object.__setattr__") ⟨[.ref x,.str name iT,v],[]⟩) R s:=by
 refine osa_open D aS cA bY λb=>?_
 obtain⟨nu,aN,oA⟩:=any_some dj
 obtain⟨bE,rQ,bG,b4⟩:=aS
 dsimp only at b4
 have Xk:(s.heap.update kY (Obj.putName name (PyData.keyHash w.params name) (.str name s.toks) v)).get? kY=some (dictOf (putL name (PyData.keyHash w.params name) (.str name s.toks) v ao) (putN name ao n)):=
  (Jo _ b4 (by rw[putName_dict];rfl)).trans (cJ some (putName_dict _ _ _ _ _ _))
 refine eP (jJ (eP (eP (wpAny_loadPart bE (eP ((looks_clsIn D aN).here ?_))))))
 rw[oA]
 refine jJ (eP (jJ (eP ?_)))
 unfold nsSet
 refine eP (eP (wpAny_askSetting (jJ (eP (wpAny_mkText (eP (wpAny_loadPart b4 ?_)))))))
 have c:(!ao.toArray.any (·.key.isStr name)&&ao.toArray.any (·.refKey))=false:=by
  rw[<-Array.any_toList,<-Array.any_toList]
  unfold getL at aI
  split at aI
  .rename_i uW cK
   rw[List.any_eq_true.mpr ⟨uW,List.mem_of_find?_eq_some cK,List.find?_some cK⟩];rfl
  .split at aI
   .nomatch aI
   .rename_i z;rw[Bool.not_eq_true]at z;rw[z,Bool.and_false]
 dsimp only
 rw[aRefKeyMayBeTheName_at,c]
 refine wpAny_updatePart b4 ?_
 have apz:=M4 name (PyData.keyHash w.params name) (.str name s.toks) v ao
 refine eP (wpAny_lookBehind Xk (pastItsLine_dict (by rw[List.size_toArray,qI];omega)) ?_)
 exact jJ h
theorem M9 {K:Type} [BEq K] (k) (v):∀l:List (K×I),(g9 l k v).length<=l.length+1
 |[]=>by simp[g9]
 |(j,u)::l=>by
  unfold g9
  split
  .simp
  .have:=M9 k v l;simp;omega
section
theorem alZ {P:I->Unit×bL->Prop} (e:lT v x u C=some q) (k:∀r aH d l,pO x=true->q2 aH=true->l.length<100->C.h r=some (.inst aH d)->C.h d=some (.attrs l)->P (.ref r) ((),⟨C.h.set d (.attrs (g9 l x u)),C.k⟩)):P v q:=
 gE e λok e=>SD (P:=λv=>P v q) e λr aH d l az aE e=>gE e λaN e=>d7 e (k r aH d l ok (Bool.and_eq_true_iff.mp aN).1 (kJ (Bool.and_eq_true_iff.mp aN).2) az aE)
theorem akN {q:Unit×bL} (ok:D.Ok) (e:lT v x u C=some q) (B:bz D φ J C s) (r:aZ φ s.heap aO v) (bV:aZ φ s.heap Bx u):wpAny (cX D) D.A (setAttr aO x Bx) (lN D φ C s λcz gf=>cz=J/\gf=q.2) dR s:=
 alZ (P:=λv q=>aZ φ s.heap aO v->wpAny (cX D) D.A (setAttr aO x Bx) (lN D φ C s λcz gf=>cz=J/\gf=q.2) dR s) e (λw7 aH d l aY aN gD az aE r=>(Option.isSome_iff_exists.mp aN).elim λc aN=>LD B az aE r λa kY ao n bk bK cK A U aS=>by
  have F:=Cx (P:=D.w.params) aN
  have f:=JY (x:=x) A
  have g5:(getL x ao).isSome=true:=by
   cases q:l.lookup x with
   |none=>rw[q]at f;exact(cJ Option.isSome f).trans rfl
   |some v=>rw[q]at f;exact f.elim λU f=>(cJ Option.isSome f.1).trans rfl
  refine set_plain (B.au ok) aS F.1.1.1.1.1.1.1.2 (akd (B.au ok) aS F.1.1.1.1.1.1.2 (by unfold takerIn;rw[F.2 x (PD aY)];rfl) F.1.1.1.1.1.1.1.1.2 g5 (by have:=A.len;omega) ?_)
  have b4:=Jo (Obj.putName x (PyData.keyHash D.w.params x) (.str x (s.toks+1)) Bx) cK (by rw[putName_dict];rfl)
  rw[putName_dict]at b4
  have m:=B.mut (gh:=.attrs (g9 l x u)) ok bK (λb o n e=>(Heap.get?_update_ne _ _ _ _ n).trans e) b4 rfl
   (λim=>⟨_,_,b4,Yr (A.mono λU U y=>⟨y.1,y.2.mono (λU U e=>e) im⟩) (bV.mono (λU U e=>e) im),by have:=M4 x (PyData.keyHash D.w.params x) (.str x (s.toks+1)) Bx ao;have:=A.len;omega⟩) (s.toks+2)
  exact⟨φ,J,_,m.2,m.1,rfl,rfl⟩) r
end
noncomputable def KZ (P:Params) (p:Addr×ni):FuncData:=RA p.2 (H8 (vp P p.1)) (.ref (p.1 -1)) (CD (vp P p.1))
noncomputable def oD (n:Nat):List (Addr×ni):=iA.filter λp=>p.2.jl.args.length==n
noncomputable def qf (P:Params) (af:Setting) (vals:List Value) (p:Addr×ni):Option (List (Str×Value)):=peek (gb P) af (bindArgs (KZ P p) ⟨vals,[]⟩)
noncomputable def m_ (vals:List Value) (p:Addr×ni):Option (List (Str×Value)):=some ((p.2.jl.args.map (·.arg)).zip vals)
theorem akU:(iA.all λp=>decide (p.2.jl.args.length<=7))=true:=by kernel_rfl
theorem aag (P:Params) (af:Setting):(oD 0).map (qf P af [])=(oD 0).map (m_ []):=by kernel_rfl
theorem aah (P:Params) (af:Setting) a:(oD 1).map (qf P af [a])=(oD 1).map (m_ [a]):=by kernel_rfl
theorem aai (P:Params) (af:Setting) (a b):(oD 2).map (qf P af [a,b])=(oD 2).map (m_ [a,b]):=by kernel_rfl
theorem aaj (P:Params) (af:Setting) (a b c):(oD 3).map (qf P af [a,b,c])=(oD 3).map (m_ [a,b,c]):=by kernel_rfl
theorem aak (P:Params) (af:Setting) (a b c d):(oD 4).map (qf P af [a,b,c,d])=(oD 4).map (m_ [a,b,c,d]):=by kernel_rfl
theorem aal (P:Params) (af:Setting) (a b c d e):(oD 5).map (qf P af [a,b,c,d,e])=(oD 5).map (m_ [a,b,c,d,e]):=by kernel_rfl
theorem aam (P:Params) (af:Setting) (a b c d e f):(oD 6).map (qf P af [a,b,c,d,e,f])=(oD 6).map (m_ [a,b,c,d,e,f]):=by kernel_rfl
theorem aan (P:Params) (af:Setting) (a b c d e f g):(oD 7).map (qf P af [a,b,c,d,e,f,g])=(oD 7).map (m_ [a,b,c,d,e,f,g]):=by kernel_rfl
theorem vh {b9 ef:Type} {l:List b9} {f g:b9->ef} (h:l.map f=l.map g) {a:b9} (e:a∈l):f a=g a:=by
 obtain⟨i,e⟩:=OQ e
 exact y_ h e
theorem Z9 {af:Setting} {p:Addr×ni} (h:p∈iA) vals (aI:vals.length=p.2.jl.args.length):qf P af vals p=m_ vals p:=by
 have le:=kJ (List.all_eq_true.mp akU p h)
 have m:∀n,p.2.jl.args.length=n->p∈oD n:=λn e=>List.mem_filter.mpr ⟨h,by simp[e]⟩
 match vals,aI with
 |[],e=>exact vh (aag P af) (m 0 e.symm)
 |[a],e=>exact vh (aah P af a) (m 1 e.symm)
 |[a,b],e=>exact vh (aai P af a b) (m 2 e.symm)
 |[a,b,c],e=>exact vh (aaj P af a b c) (m 3 e.symm)
 |[a,b,c,d],e=>exact vh (aak P af a b c d) (m 4 e.symm)
 |[a,b,c,d,f],e=>exact vh (aal P af a b c d f) (m 5 e.symm)
 |[a,b,c,d,f,g],e=>exact vh (aam P af a b c d f g) (m 6 e.symm)
 |[a,b,c,d,f,g,i],e=>exact vh (aan P af a b c d f g i) (m 7 e.symm)
 |_::_::_::_::_::_::_::_::_,e=>simp at e;omega
noncomputable def yw (P:Params) (a:Addr):List Value:=match CD (vp P a)with
 | .ref t=>(match (gb P).lookup t with|some ⟨_,_,.seq eu _,_⟩=>eu.toList|_=>[])
 |_=>[]
noncomputable def Az (P:Params) (a:Addr) (k:Nat) (aa:List I):Bool:=decide (((yw P a).drop k).length=aa.length)&&(((yw P a).drop k).zip aa).all λp=>(Er (gb P) p.1 p.2).isSome
theorem Ga (P:Params):(Az P 241 0 [.int 10000]&&Az P 1199 0 [.int 64,.int 12,.int 768,.tup [.int 1,.int 1]]&&Az P 1248 0 [.tup [],.none]&&Az P 1248 1 [.none])=true:=by kernel_rfl
theorem abN (P:Params) (af:Setting) (a b c d e):qf P af [a,b,c,d,e] (241,cU 35 0)=m_ ([a,b,c,d,e]++(yw P 241).drop 0) (241,cU 35 0):=by kernel_rfl
theorem abK (P:Params) (af:Setting) (a b c):qf P af [a,b,c] (1199,cU 169 0)=m_ ([a,b,c]++(yw P 1199).drop 0) (1199,cU 169 0):=by kernel_rfl
theorem abL (P:Params) (af:Setting) (a b):qf P af [a,b] (1248,cU 171 0)=m_ ([a,b]++(yw P 1248).drop 0) (1248,cU 171 0):=by kernel_rfl
theorem abM (P:Params) (af:Setting) (a b c):qf P af [a,b,c] (1248,cU 171 0)=m_ ([a,b,c]++(yw P 1248).drop 1) (1248,cU 171 0):=by kernel_rfl
theorem F_ (D:(gb P).In h) (e:Az P a k aa=true):fG φ h ((yw P a).drop k) aa:=by
 unfold Az at e
 rw[gI]at e
 refine .of_get (kJ e.1) λi x y a b=>WU ?_ _ _ D
 exact List.all_eq_true.mp e.2 (x,y) (List.mem_of_getElem? (by rw[List.getElem?_zip_eq_some];exact⟨a,b⟩))
theorem agw {K:Frag} (D:K.In s.heap) (e:∀af,peek K af (bindArgs fd args)=some binds):BindsTo s fd args binds:=λM A E Q Z=>(Looks.of_peek D (e _)).here Z
theorem Yq:iA.lookup 241=some (cU 35 0):=by kernel_rfl
theorem Yp:iA.lookup 1199=some (cU 169 0):=by kernel_rfl
theorem PB:iA.lookup 1248=some (cU 171 0):=by kernel_rfl
theorem Fi (h:iA.lookup a=some f) (bH:iA.lookup a=some g):g=f:=by rw[h]at bH;exact(iH bH).symm
section
def xV (P:Params) (s:Shared) (φ:dG) (a:Addr) (f:ni) (eG:List Value) (eW:List (Str×I)):Prop:=∃rs m8,BindsTo s (KZ P (a,f)) ⟨eG,[]⟩ ((f.jl.args.map (·.arg)).zip rs)/\eW=(f.jl.args.map (·.arg)).zip m8/\fG φ s.heap rs m8
theorem xV.mk {m8:List I} (D:(gb P).In s.heap) (G:∀af,qf P af eG (a,f)=m_ rs (a,f)) (r:fG φ s.heap rs m8):xV P s φ a f eG ((f.jl.args.map (·.arg)).zip m8):=⟨rs,m8,agw D G,rfl,r⟩
theorem q6 (h:l.length=n+1):∃a m,l=a::m/\m.length=n:=by
 induction l with
 |nil=>simp at h
 |cons a m=>exact⟨a,m,rfl,by simpa using h⟩
theorem aad (D:(gb P).In s.heap) (bD:iA.lookup 241=some f) {eG:List Value} (r:fG φ s.heap eG aa) (e:5=aa.length):xV P s φ 241 f eG ((f.jl.args.map (·.arg)).zip (aa++[.int 10000])):=by
 have b4:=Ga P
 rw[gI,gI,gI]at b4
 have G:=abN P
 rw[Fi bD Yq]at G
 obtain⟨dB,jj,rfl,az⟩:=q6 (r.len.trans e.symm)
 obtain⟨fM,iB,rfl,aE⟩:=q6 az
 obtain⟨jx,sV,rfl,b8⟩:=q6 aE
 obtain⟨sH,ahT,rfl,cH⟩:=q6 b8
 obtain⟨ff,ahU,rfl,kB⟩:=q6 cH
 cases List.length_eq_zero_iff.mp kB
 exact .mk D (λaf=>G af dB fM jx sH ff) (r.append (F_ D b4.1.1.1))
theorem aaa (D:(gb P).In s.heap) (bD:iA.lookup 1199=some f) {eG:List Value} (r:fG φ s.heap eG aa) (e:3=aa.length):xV P s φ 1199 f eG ((f.jl.args.map (·.arg)).zip (aa++[.int 64,.int 12,.int 768,.tup [.int 1,.int 1]])):=by
 have b4:=Ga P
 rw[gI,gI,gI]at b4
 have G:=abK P
 rw[Fi bD Yp]at G
 obtain⟨dB,jj,rfl,az⟩:=q6 (r.len.trans e.symm)
 obtain⟨fM,iB,rfl,aE⟩:=q6 az
 obtain⟨jx,sV,rfl,b8⟩:=q6 aE
 cases List.length_eq_zero_iff.mp b8
 exact .mk D (λaf=>G af dB fM jx) (r.append (F_ D b4.1.1.2))
theorem aab (D:(gb P).In s.heap) (bD:iA.lookup 1248=some f) {eG:List Value} (r:fG φ s.heap eG aa) (e:2=aa.length):xV P s φ 1248 f eG ((f.jl.args.map (·.arg)).zip (aa++[.tup [],.none])):=by
 have b4:=Ga P
 rw[gI,gI,gI]at b4
 have G:=abL P
 rw[Fi bD PB]at G
 obtain⟨dB,jj,rfl,az⟩:=q6 (r.len.trans e.symm)
 obtain⟨fM,iB,rfl,aE⟩:=q6 az
 cases List.length_eq_zero_iff.mp aE
 exact .mk D (λaf=>G af dB fM) (r.append (F_ D b4.1.2))
theorem aac (D:(gb P).In s.heap) (bD:iA.lookup 1248=some f) {eG:List Value} (r:fG φ s.heap eG aa) (e:3=aa.length):xV P s φ 1248 f eG ((f.jl.args.map (·.arg)).zip (aa++[.none])):=by
 have b4:=Ga P
 rw[gI,gI,gI]at b4
 have G:=abM P
 rw[Fi bD PB]at G
 obtain⟨dB,jj,rfl,az⟩:=q6 (r.len.trans e.symm)
 obtain⟨fM,iB,rfl,aE⟩:=q6 az
 obtain⟨jx,sV,rfl,b8⟩:=q6 aE
 cases List.length_eq_zero_iff.mp b8
 exact .mk D (λaf=>G af dB fM jx) (r.append (F_ D b4.2))
set_option tactic.hygienic true in
theorem Z_ (D:(gb P).In s.heap) (bD:iA.lookup a=some f) (r:fG φ s.heap eG aa) (e:uQ a f aa=some eW):xV P s φ a f eG eW:=by
 unfold uQ at e
 split at e
 .rename_i aI
  nomatch e
  exact .mk D (λaf=>Z9 (rY bD) eG (r.len.trans (kJ aI))) r
 .split at e
  .rename_i q aR
   nomatch e
   have Z:=List.find?_some aR
   rw[gI]at Z
   have bk:=beq_iff_eq.mp Z.1
   have bK:=beq_iff_eq.mp Z.2
   have aP:=List.mem_of_find?_eq_some aR
   clear aR Z
   unfold V8 at aP
   simp only[sj,B0,or_false]at aP
   rcases aP with h|h|h|h<;>subst h<;>dsimp only at bk bK<;>subst bk
   .exact aad D bD r bK
   .exact aaa D bD r bK
   .exact aab D bD r bK
   .exact aac D bD r bK
  .nomatch e
end
noncomputable def K2 (p:Addr×ni):Bool:=p.2.sc.kind==.function&&!p.2.sc.isGenerator&&!p.2.sc.isCoroutine&&(p.2.jl.args.all λa=>p.2.sc.names.lookup a.arg==some .local || p.2.sc.names.lookup a.arg==some .cell)&&
 decide (p.2.jl.args.map (·.arg)).Nodup&&p.2.sc.names.all λx=>x.2 != .free
theorem adv:iA.map K2=iA.map λU=>true:=by kernel_rfl
theorem K3 {a:Addr} (h:iA.lookup a=some f):((((f.sc.kind=.function/\f.sc.isGenerator=false)/\f.sc.isCoroutine=false)/\(∀x∈f.jl.args,f.sc.names.lookup x.arg=some .local\/f.sc.names.lookup x.arg=some .cell))/\(f.jl.args.map (·.arg)).Nodup)/\∀x∈f.sc.names,x.2≠.free:=by
 have h:K2 (a,f)=true:=vh adv (rY h)
 unfold K2 at h
 simp only[gI,zW,EF,Je,EH,lH,bne_iff_ne]at h
 exact h
set_option tactic.hygienic true in
theorem FF:∀(names:List (Str×NameKind)) n eg,((eg.lookup x).isSome=true\/names.lookup x=some .cell)->((cellsFrom n names eg).lookup x).isSome=true
 |[],n,eg,h=>by rcases h with h|h;exact h;nomatch h
 |(y,k)::r,n,eg,h=>by
  unfold cellsFrom
  have up:∀pN:List (Str×Addr),(eg.lookup x).isSome=true->((((y,n)::eg).lookup x).isSome=true):=λU e=>by
   rw[List.lookup_cons];cases x==y with|true=>rfl|false=>exact e
  split
  .rename_i bI
   refine FF r _ _ ?_
   rcases h with h|h
   .exact .inl (up eg h)
   .rw[List.lookup_cons]at h
    cases q:x==y with
    |true=>left;rw[List.lookup_cons,q];rfl
    |false=>rw[q]at h;exact .inr h
  .rename_i bI
   refine FF r _ _ ?_
   rcases h with h|h
   .exact .inl h
   .rw[List.lookup_cons]at h
    cases q:x==y with
    |true=>rw[q]at h;nomatch h;exact absurd rfl bI
    |false=>rw[q]at h;exact .inr h
section
theorem PY:∀l m,x∉l.map (·.1)->bindL sT l m x=m x
 |[],m,_=>rfl
 |(y,v)::l,m,h=>by
  unfold bindL
  rw[PY l _ λq=>h (i9 _ q)]
  have:x≠y:=λe=>h (e▸jH)
  split
  .exact bX this
  .rfl
theorem PW:∀l m,x∉l.map (·.1)->bindC sT l m x=m x
 |[],m,_=>rfl
 |(y,v)::l,m,h=>by
  unfold bindC
  rw[PW l _ λq=>h (i9 _ q)]
  have:x≠y:=λe=>h (e▸jH)
  split
  .rfl
  .exact bX this
theorem PZ (bI:sT x=some .local):∀l m,(l.map (·.1)).Nodup->l.lookup x=some v->bindL sT l m x=some v
 |[],m,_,h=>by nomatch h
 |(y,u)::l,m,n,h=>by
  have n:=List.nodup_cons.mp n
  unfold bindL
  rw[List.lookup_cons]at h
  by_cases q:x=y
  .subst q
   simp only[qE,ED]at h
   subst h
   rw[PY l _ n.1,bT bI];exact bT rfl
  .have:(x==y)=false:=by simpa using q
   rw[this]at h
   exact PZ bI l _ n.2 h
theorem PX (bI:sT x≠some .local):∀l m,(l.map (·.1)).Nodup->l.lookup x=some v->bindC sT l m x=some v
 |[],m,_,h=>by nomatch h
 |(y,u)::l,m,n,h=>by
  have n:=List.nodup_cons.mp n
  unfold bindC
  rw[List.lookup_cons]at h
  by_cases q:x=y
  .subst q
   simp only[qE,ED]at h
   subst h
   rw[PW l _ n.1,bX bI];exact bT rfl
  .have:(x==y)=false:=by simpa using q
   rw[this]at h
   exact PX bI l _ n.2 h
end
theorem OG:∀(ns:List Str) (rs:List Value) (m8:List I),fG φ h rs m8->(ns.zip m8).lookup x=some v->∃aO,(ns.zip rs).lookup x=some aO/\aZ φ h aO v
 |[],_,_,_,e=>by simp at e
 |n::ns,[],[],_,e=>by simp at e
 |n::ns,r::rs,w::m8,.cons a b,e=>by
  simp only[List.zip_cons_cons,List.lookup_cons]at e ⊢
  split at e
  .nomatch e;exact⟨r,rfl,a⟩
  .exact OG ns rs m8 b e
theorem OH:∀(ns:List b9) (rs:List ef),(∀x∈(ns.zip rs).map (·.1),x∈ns)/\(ns.Nodup->((ns.zip rs).map (·.1)).Nodup)
 |[],_=>by simp
 |n::ns,[]=>by simp
 |n::ns,r::rs=>by
  obtain⟨a,b⟩:=OH ns rs
  simp only[List.zip_cons_cons,nN,sj,List.nodup_cons]
  exact⟨λx h=>h.elim .inl λh=>.inr (a x h),λ⟨c,d⟩=>⟨λq=>c (a _ q),b d⟩⟩
theorem RP (e:(qY sc eW).lookup x=some v) (bJ:v≠.undef):eW.lookup x=some v:=by
 unfold qY at e
 generalize sc.names=l at e
 induction l with
 |nil=>nomatch e
 |cons p l ih=>
  obtain⟨y,k⟩:=p
  rw[List.filterMap_cons]at e
  have key:∀u:I,((y,u)::List.filterMap (λx:Str×NameKind=>match x.2 with
    | .local=>some (x.1,(eW.lookup x.1).getD .undef)
    | .cell=>some (x.1,(eW.lookup x.1).getD .undef)
    |_=>none) l).lookup x=some v->u=(eW.lookup y).getD .undef->eW.lookup x=some v:=λu h j8=>by
   rw[List.lookup_cons]at h
   by_cases q:x=y
   .subst q
    simp only[qE,ED]at h
    subst h
    cases z:eW.lookup x with
    |none=>rw[z]at j8;exact absurd j8 bJ
    |some w=>rw[z]at j8;rw[j8];rfl
   .have:(x==y)=false:=by simpa using q
    rw[this]at h
    exact ih h
  nomatch k<;>first|exact key _ e rfl|exact ih e
def dU.rJ (D:dU):Prop:=∀x a,D.env.cells.lookup x=some a->a∈D.fr
structure Jr (w:World) (A:Around) (s eX:Shared) (cS:List Addr) (kc dK:Str->Option Value) (n:Nat) (φ:dG) (p:ay) (h:bl):Prop where
 au:(gb w.params).In s.heap
 nl:s.heap.NoLimit
 room:x9 A (n+1)
 g:(hideAll s.heap cS).Ns mainGlobals kc
 b:(hideAll s.heap cS).Ns builtinsNs dK
 bv:∀x:Str,x≠"__name__"->dK x=bootBuiltins x
 nolimit:(hideAll s.heap cS).NoLimit
 base:∀b o,(gR w.params).get? b=some o->sR o=false->(hideAll s.heap cS).get? b=some o
 own:∀r a,φ r=some a->a∈cS/\qe s.heap a
 inj:∀r bV a,φ r=some a->φ bV=some a->r=bV
 oV:∃cS:List Addr,∀r a,φ r=some a->a∈cS
 fresh:∀r,d_ p 0 r->φ r=none
 obs:∀r o,h r=some o->∃a,φ r=some a/\nk w φ s.heap a o
 gens:s.gens=eX.gens
 drawn:s.drawn=eX.drawn
 os:s.os=eX.os
noncomputable def uY (w:World) (A:Around) (s eX:Shared) (cS:List Addr) (kc dK:Str->Option Value) (n:Nat) (p:ay) (env:Env):dU:=
 {w:=w,A:=A.deeper env,env:=env,jy:=hideAll s.heap cS,kc:=kc,dK:=dK,eX:=eX,fr:=env.locals::env.cells.filterMap (λp=>env.cells.lookup p.1),p:=p,lvl:=n}
theorem adU {h:Heap} (aP:h.objs.size<=b):h.get? b=none:=by
 cases q:h.get? b with
 |none=>rfl
 |some o=>exact absurd (tF q) (Nat.not_lt.mpr aP)
section
theorem RK {c:Addr} (e:env.cells.lookup y=some c):c∈(uY w A s eX cS kc dK n p env).fr:=i9 _ (List.mem_filterMap.mpr ⟨_,EY e,e⟩)
theorem RL {P:Prop} (aN:c∈(uY w A s eX cS kc dK n p env).fr) (g6:c=env.locals->P) (gK:∀y,env.cells.lookup y=some c->P):P:=
 (List.mem_cons.mp aN).elim g6 λaN=>(List.mem_filterMap.mp aN).elim λz hz=>gK z.1 hz.2
theorem RJ (bK:env.locals=s.heap.objs.size) (aX:∀n c,(n,c)∈env.cells->env.locals<c) {c:Addr} (aN:c∈(uY w A s eX cS kc dK n p env).fr):s.heap.get? c=none:=
 adU (RL aN (λe=>ng (e.trans bK).symm) λy e=>bK▸sq (aX y c (EY e)))
theorem adG (G:Jr w A s eX cS kc dK n φ p h) (bD:iA.lookup a=some f) (bk:env.scope=f.sc) (bK:env.locals=s.heap.objs.size) (gJ:env.cells=cellsFrom (s.heap.objs.size+1) f.sc.names []) (nv:env.globals=mainGlobals) (sI:env.builtins=builtinsNs)
  (aK:env.cells.Pairwise λx y=>x.2≠y.2) (aX:∀n c,(n,c)∈env.cells->env.locals<c):(uY w A s eX cS kc dK n p env).Ok:=
 have F:=K3 bD
 have bG:∀{c},c∈(uY w A s eX cS kc dK n p env).fr->(hideAll s.heap cS).get? c=none:=λ{c} aN=>by
  cases q:(hideAll s.heap cS).get? c with
  |none=>rfl
  |some o=>exact oE (RJ bK aX aN) (of_hideAll _ q)
 ⟨(cJ Scope.kind bk).trans F.1.1.1.1.1,nv,sI,⟨G.room.1,by have:=G.room.2.1;show A.depth+1+n<_;omega,by have:=G.room.2.2;show A.units+3+8*n+80<_;omega⟩,G.g,G.b,G.bv,G.nolimit,G.base,jH,λc aN=>bG aN,λy c e=>.inl (RK e),λy c e=>zV (aX y c (EY e)),
  λy lU c e ff=>name_of_addr aK (EY e) (EY ff),λy cM=>(show env.scope.names.lookup y=some .cell\/env.scope.names.lookup y=some .free from cM).elim
   (λq=>Option.isSome_iff_exists.mp ((cJ (λl=>(List.lookup y l).isSome) gJ).trans (FF _ _ _ (.inr (bk▸q))))) λq=>absurd rfl (F.2 _ (rY (bk▸q)))⟩
theorem adH (G:Jr w A s eX cS kc dK n φ p h) (bD:iA.lookup a=some f) {rs:List Value} {m8:List I} (r:fG φ s.heap rs m8) {br:Shared} (bK:env.locals=s.heap.objs.size)
  (x:InCallC s env.locals (bindL env.kindOf ((f.jl.args.map (·.arg)).zip rs) λU=>none) env.cells (bindC env.kindOf ((f.jl.args.map (·.arg)).zip rs) λU=>none) br):bz (uY w A s eX cS kc dK n p env) φ (qY f.sc ((f.jl.args.map (·.arg)).zip m8)) ⟨h,0⟩ br:=
 have p0:=(OH (f.jl.args.map (·.arg)) rs).2 (K3 bD).1.2
 have lg:=x.toInCall.keep
 have im:∀b o,s.heap.get? b=some o->f7 o=true->br.heap.get? b=some o:=λb o e U=>lg b o e
 have NN:br.gens=s.gens/\br.drawn=s.drawn/\br.os=s.os:=by obtain⟨t5,iT,e⟩:=x.toInCall.same;subst e;exact⟨rfl,rfl,rfl⟩
 ⟨λb o e=>lg b o (of_hideAll _ e),⟨_,x.toInCall.ns,λy v e bJ bI=>(OG _ _ _ r (RP e bJ)).elim λaO z=>⟨aO,PZ bI _ _ p0 z.1,z.2.mono (λU U e=>e) im⟩⟩,
  λy c e=>⟨_,x.cell y c e,λv e bJ bI=>(OG _ _ _ r (RP e bJ)).elim λaO z=>⟨aO,PX bI _ _ p0 z.1,z.2.mono (λU U e=>e) im⟩⟩,
  λc aN=>RL aN (λe=>e▸Ns.live x.toInCall.ns) λy e=>(x.cell y c e).elim λo z=>⟨o,z.1,by unfold f7;rw[z.2]⟩,
  λr c e=>⟨λz=>(G.own r c e).2.none (RJ bK x.above z),hideAll_none _ (G.own r c e).1,(G.own r c e).2.mono λo=>lg c o⟩,G.inj,G.oV,G.fresh,
  λr o e=>(G.obs r o e).elim λc z=>⟨c,z.1,z.2.mono (λU U e=>e) im λo=>lg c o⟩,NN.1.trans G.gens,NN.2.1.trans G.drawn,NN.2.2.trans G.os⟩
theorem Qw (G:Jr w A s eX cS kc dK n φ p h) (bD:iA.lookup a=some f) {aa:List I} {eG:List Value} {eW:List (Str×I)} (aP:uQ a f aa=some eW) (r:fG φ s.heap eG aa) {R:Result->Shared->Prop}
  (bE:∀di:dU,di.Ok->di.rJ->di.env.scope=f.sc->di.p=p->di.lvl=n->oN di f.body (qY f.sc eW) ⟨h,0⟩ (λU aG=>Q .none aG) Q)
  (aQ:∀env br cg cz aT bW aO v,(∀b o,s.heap.get? b=some o->br.heap.get? b=some o)->bz (uY w A s eX cS kc dK n p env) cg cz aT bW->eV (uY w A s eX cS kc dK n p env) φ ⟨h,0⟩ br cg aT bW->aZ cg bW.heap aO v->Q v aT->R (.ok (.ret aO)) bW):
  codeAny (model c3 w) A (.call (.ref a) ⟨eG,[]⟩) R s:=by
 refine iu λaH ez=>?_
 obtain⟨rs,m8,lZ,rfl,alS⟩:=Z_ G.au bD r aP
 have F:=K3 bD
 have cZ:=K1 (P:=w.params) bD
 refine ez ?_
 refine codeAny_call_function (fd:=KZ w.params (a,f)) (body:=f.body) (dg (gQ _ _) G.room.2.1) (G.au _ _ cZ.2.1) rfl F.1.1.1.2 F.1.1.1.1.2 rfl (codeRec_of G.au cZ.2.2) (lZ _ _ _ _ ?_)
 refine wpAny_newFunctionEnv_cells F.1.1.1.1.1 (λx bE=>?_) λenv cK br x=>⟨G.nl.keeps x.toInCall.keep,codeAny_func ?_⟩
 .obtain⟨y,cM,e⟩:=List.mem_map.mp ((OH (f.jl.args.map (·.arg)) rs).1 x.1 (List.mem_map_of_mem bE))
  exact e▸(F.1.1.2 y cM).elim .inl λq=>.inr ⟨q,FF _ _ _ (.inr q)⟩
 have bK:env.locals=s.heap.objs.size:=cJ Env.locals cK
 have bk:env.scope=f.sc:=cJ Env.scope cK
 have pg:=adG G bD bk bK (cJ Env.cells cK) (cJ Env.globals cK) (cJ Env.builtins cK) x.apart x.above
 have bU:=adH G bD alS bK x
 exact gi (bE _ pg (λU U e=>RK e) bk rfl rfl φ _ bU) (λeF bW q=>q.k λcg cz aT l fh q=>q.k (P:=λeF=>R (.ok (.ret (match eF with| .ret v=>v|_=>.none))) bW) (λq=>aQ _ _ _ _ _ _ _ _ x.toInCall.keep fh l .none q) λaO v gG q=>aQ _ _ _ _ _ _ _ _ x.toInCall.keep fh l gG q) λU U z=>z.elim
end
section
theorem abI (ok:D.Ok) (aI:1<=D.lvl) {a:Addr} {f:ni} {aa:List I} (bD:iA.lookup a=some f) (aP:uQ a f aa=some eW) (B:bz D φ J C s) (r:fG φ s.heap eG aa)
  (h:∀di:dU,di.Ok->di.rJ->di.env.scope=f.sc->di.p=C.k::D.p->di.lvl+1=D.lvl->oN di f.body (qY f.sc eW) ⟨C.h,0⟩ (λU aG=>Q .none ⟨aG.h,C.k+1⟩) (λv aG=>Q v ⟨aG.h,C.k+1⟩)):
  codeAny (cX D) D.A (.call (.ref a) ⟨eG,[]⟩) (λq bW=>∃aO,q=.ok (.ret aO)/\d6 aZ D J φ C s Q aO bW) s:=
 B.U9.elim λcS has=>
 have bI:∀b o,D.jy.get? b=some o->(hideAll s.heap cS).get? b=some o:=λb o e=>EL _ (B.keep b o e) λq=>((has b).mp q).elim λr z=>oE (B.own r b z).2.1 e
 Qw (n:=D.lvl -1) (p:=C.k::D.p) (h:=C.h) (Q:=λv aG=>Q v ⟨aG.h,C.k+1⟩) ⟨B.au ok,ok.nolimit.keeps B.keep,(I8 aI).symm▸ok.room,ok.g.keeps bI,ok.b.keeps bI,ok.bv,ok.nolimit.keeps bI,λb o e z=>bI b o (ok.base b o e z),λr c e=>⟨(has c).mpr ⟨r,e⟩,(B.own r c e).2.2⟩,B.inj,B.oV,λr e=>B.fresh r (d_.sub e),B.obs,B.gens,B.drawn,B.os⟩
  bD aP r (λdi pg kA aR cA u_=>h di pg kA aR cA (u_▸I8 aI)) λenv br cg cz aT bW aO v lg fh l gG q=>
   have z:=bz.back (di:=uY D.w D.A s D.eX cS D.kc D.dK (D.lvl -1) (C.k::D.p) env) (br:=br) ok B has rfl rfl rfl rfl lg fh l
   ⟨aO,rfl,v,cg,_,z.2,gG,z.1,q⟩
end
section
variable {D:dU}
theorem Hf {r:ay} (B:bz D φ J C s) (h:C.h r=some (.list aa)) (x:aZ φ s.heap aO (.ref r)):
  ∃a items n,aO=.ref a/\φ r=some a/\IsL s.heap a items n/\s.heap.IsList a items/\fG φ s.heap items.toList aa/\items.size=aa.length:=by
 refine iu λaH ez=>?_
 obtain⟨a,aY,items,n,e,rs⟩:=B.obs _ _ h
 obtain⟨dB,rfl,ff⟩:=x.DN
 refine ez ?_
 rw[aY]at ff;nomatch ff
 exact⟨a,items,n,rfl,aY,e,⟨_,e,rfl,n,rfl⟩,rs,by rw[<-rs.len];simp⟩
theorem Dq {ef Jp:Type} {o:Option ef} {f:ef->Jp} {c:Jp} {P:Prop} (e:o.map f=some c) (k:∀b,o=some b->f b=c->P):P:=by
 induction o with
 |none=>exact fK e
 |some b=>exact k b rfl (iH e)
theorem aoo {h:Heap} {aa:List Value}:∀{l:List Int},xG aa=some l->fG φ h aa (l.map I.int):=by
 induction aa with
 |nil=>intro l e;exact d7 e .nil
 |cons v aa ih=>
  intro l e
  induction v with
  |int i t=>exact Dq e λm bk bK=>bK▸.cons (.int i t) (ih bk)
  |_=>exact fK e
set_option tactic.hygienic true in
theorem RN {r:ay} (B:bz D φ J C s) (h:C.h r=some (.k4 o)) (aI:sJ o=some l) (x:aZ φ s.heap aO (.ref r)):
  ∃a items,aO=.ref a/\s.heap.IsList a items/\items.size=l.length/\fG φ s.heap items.toList (l.map I.int):=by
 obtain⟨a,aY,e⟩:=B.obs _ _ h
 obtain⟨dB,rfl,ff⟩:=x.DN
 rw[aY]at ff;nomatch ff
 unfold sJ at aI
 split at aI
 .rename_i eu n hd
  split at aI
  .rename_i aN
   have A:=aoo (φ:=φ) (h:=s.heap) aI
   exact⟨a,eu,rfl,⟨_,e,by simpa using aN,n,hd⟩,by have:=A.len;simpa using this,A⟩
  .nomatch aI
 .nomatch aI
theorem nH (h:Heap):h.get? h.objs.size=none:=by
 cases q:h.get? h.objs.size with
 |none=>rfl
 |some o=>exact absurd (tF q) (Nat.lt_irrefl _)
@[elab_as_elim] theorem n0 {r:ay} {P:Value->Prop} (B:bz D φ J C s) (h:C.h r=some (.list aa)) (x:aZ φ s.heap aO (.ref r))
  (k:∀a items n,φ r=some a->IsL s.heap a items n->s.heap.IsList a items->fG φ s.heap items.toList aa->items.size=aa.length->P (.ref a)):P aO:=by
 obtain⟨a,items,n,rfl,az,aE,b8,cH,kB⟩:=Hf B h x;exact k a items n az aE b8 cH kB
set_option tactic.hygienic true in
theorem Vb (ok:D.Ok) (B:bz D φ J C s) (aY:s.heap.get? a=none) (k:∀b o,s.heap.get? b=some o->g.get? b=some o)
  (bw:g.get? a=some o) (aj:f7 o=false) (aP:nk D.w φ g a gh) (t):d6 aZ D J φ C s (Is (.ref (C.k::D.p)) ⟨C.h.set (C.k::D.p) gh,C.k+1⟩) (.ref a) {s with heap:=g,toks:=t}:=by
 have iZ:∀bV dB,φ bV=some dB->(φ.set (C.k::D.p) a) bV=some dB:=λbV dB e=>by
  unfold dG.set;split
  .rename_i q;rw[q,B.fresh _ (d_.self D.p C.k)]at e;nomatch e
  .exact e
 obtain⟨bU,l⟩:=B.new ok aY k bw aj (aP.mono iZ (λU U e U=>e) (λU e=>e)) t
 exact⟨_,_,_,l,.ref (by unfold dG.set;rw[bT rfl]),bU,rfl,rfl⟩
theorem xm (ok:D.Ok) (B:bz D φ J C s) (aY:s.heap.get? a=none) (k:∀b o,s.heap.get? b=some o->g.get? b=some o)
  (bw:IsL g a items n) (rs:fG φ s.heap items.toList aa) (t):d6 aZ D J φ C s (Is (.ref (C.k::D.p)) ⟨C.h.set (C.k::D.p) (.list aa),C.k+1⟩) (.ref a) {s with heap:=g,toks:=t}:=
 Vb (gh:=.list aa) ok B aY k bw rfl ⟨items,n,bw,rs.mono λU U y=>y.mono (λU U e=>e) λb o e U=>k b o e⟩ t
theorem MX {r:ay} (ok:D.Ok) (B:bz D φ J C s) (aQ:φ r=some a) (k:Heap.SameBut a s.heap g)
  (bw:IsL g a items n) (rs:fG φ s.heap items.toList aa) (x:aZ φ s.heap aO v) (t):d6 aZ D J φ C s (Is v ⟨C.h.set r (.list aa),C.k⟩) aO {s with heap:=g,toks:=t}:=by
 obtain⟨bU,l⟩:=B.mut (gh:=.list aa) ok aQ (λb o n e=>k.extBut b o n e) bw rfl (λim=>⟨items,n,bw,rs.mono λU U y=>y.mono (λU U e=>e) im⟩) t
 exact⟨_,_,_,l,B.m7 l x,bU,rfl,rfl⟩
theorem rj {b:I} {aO:Value} {t:Nat} (B:bz D φ J C s) (x:aZ φ s.heap aO b):d6 aZ D J φ C s (Is b C) aO {s with toks:=t}:=⟨_,φ,C,.toks t,x,B.toks t,rfl,rfl⟩
theorem uf {g:Heap} {b:I} {aO:Value} {t:Nat} (ok:D.Ok) (B:bz D φ J C s) (k:∀b o,s.heap.get? b=some o->g.get? b=some o) (x:aZ φ g aO b):d6 aZ D J φ C s (Is b C) aO {s with heap:=g,toks:=t}:=
 ⟨_,φ,C,.ext k t,x,B.ext k t ok,rfl,rfl⟩
theorem UX {r:ay} (e:Y (obj r) f C=some q):∃o,C.h r=some o/\f o C=some q:=by
 refine eS e λo aG bk e=>?_
 obtain⟨gM,h,q⟩:=UY bk
 nomatch q
 exact⟨o,h,e⟩
@[elab_as_elim] theorem afh {aa:List I} {ns:List Int} {P:I->List Int->Prop} (e:sP (v::aa)=some ns) (k:∀i l,sP aa=some l->P (.int i) (i::l)):P v ns:=by
 cases v with
 |int i=>exact Dq e λl bk bK=>bK▸k i l bk
 |_=>exact fK e
@[elab_as_elim] theorem ajP {aa:List I} {ns:List Nat} {P:I->List Nat->Prop} (e:xd (v::aa)=some ns) (k:∀i l,0<=i/\i<256->xd aa=some l->P (.int i) (i.toNat::l)):P v ns:=by
 cases v with
 |int i=>
  by_cases c:(decide (0<=i)&&decide (i<256))=true
  .exact Dq ((bT c).symm.trans e) λl bk bK=>bK▸k i l (by rw[gI]at c;exact⟨kJ c.1,kJ c.2⟩) bk
  .exact fK ((bX c).symm.trans e)
 |_=>exact fK e
theorem C6 (A:fG φ h eG aa):∀{ns:List Int},sP aa=some ns->IntsAre eG ns:=by
 induction A with
 |nil=>intro ns e;exact d7 e .nil
 |cons a _ ih=>intro ns e;exact afh e (λi l bk a=>a.j9 λt=>.cons i t (ih bk)) a
theorem ajQ (A:fG φ h eG aa):∀{l:List Nat},xd aa=some l->∃ns,IntsAre eG ns/\(∀n∈ns,0<=n/\n<256)/\l=ns.map Int.toNat:=by
 induction A with
 |nil=>intro l e;exact d7 e ⟨[],.nil,λn bG=>absurd bG B0,rfl⟩
 |cons a _ ih=>intro l e;exact ajP e (λi l aj bk a=>a.j9 λt=>(ih bk).elim λns h=>⟨i::ns,.cons _ t h.1,λn bG=>(List.mem_cons.mp bG).elim (λz=>z▸aj) (h.2.1 n),cJ _ h.2.2⟩) a
theorem K5:∀(l:List Int) (i:Int),l.foldl (λa b=>if b<a then b else a) i∈i::l/\∀a∈i::l,l.foldl (λa b=>if b<a then b else a) i<=a
 |[],i=>by simp
 |j::l,i=>by
  obtain⟨az,aE⟩:=K5 l (if j<i then j else i)
  rw[List.foldl_cons]
  have m:=aE _ jH
  refine⟨?_,λa aY=>?_⟩
  .rcases List.mem_cons.mp az with h|h
   .rw[h];split<;>simp
   .exact i9 _ (i9 _ h)
  .rcases List.mem_cons.mp aY with rfl|aY
   .refine zU m ?_;split<;>omega
   .rcases List.mem_cons.mp aY with rfl|aY
    .refine zU m ?_;split<;>omega
    .exact aE a (i9 _ aY)
theorem K4:∀(l:List Int) (i:Int),l.foldl (λa b=>if a<b then b else a) i∈i::l/\∀a∈i::l,a<=l.foldl (λa b=>if a<b then b else a) i
 |[],i=>by simp
 |j::l,i=>by
  obtain⟨az,aE⟩:=K4 l (if i<j then j else i)
  rw[List.foldl_cons]
  have m:=aE _ jH
  refine⟨?_,λa aY=>?_⟩
  .rcases List.mem_cons.mp az with h|h
   .rw[h];split<;>simp
   .exact i9 _ (i9 _ h)
  .rcases List.mem_cons.mp aY with rfl|aY
   .refine zU ?_ m;split<;>omega
   .rcases List.mem_cons.mp aY with rfl|aY
    .refine zU ?_ m;split<;>omega
    .exact aE a (i9 _ aY)
theorem SE {ns:List Int} (aj:IntsAre aa ns):∃xs:Array (Int×Tok),aa.toArray=intItems xs/\ns=xs.toList.map (·.1):=by
 obtain⟨xs,e⟩:=aj.allInts.items
 refine⟨xs,e,?_⟩
 rw[<-aj.numsOf,<-nums_intItems,<-e]
theorem aaI {a:Addr} {items:Array Value} {ns:List Int} {m:Int} (dj:D.A.handled=none) (aI:s.heap.IsList a items) (aj:IntsAre items.toList ns) (az:m∈ns) (aE:∀a∈ns,m<=a) {Q:Value->Shared->Prop}
  (h:∀g t iT,(∀b o,s.heap.get? b=some o->g.get? b=some o)->Q (.int m t) {s with heap:=g,toks:=iT}):wpAny (cX D) D.A (call (.builtin "min") [.ref a]) Q dR s:=by
 obtain⟨xs,e,uW⟩:=SE aj
 have e:items=intItems xs:=by simpa using e
 have hsz:0<xs.size:=by
  have:0<ns.length:=List.length_pos_of_mem az
  rw[uW,fD,Array.length_toList]at this;exact this
 rw[e]at aI
 refine min_intList dj aI hsz λv bH iT bJ bI=>?_
 obtain⟨t,rfl⟩:=intItems_at bJ
 obtain⟨nI,iM⟩:=argBest_lt (numAt xs) (xs.size -1)
 have z:numAt xs (argBest (λi j=>decide (numAt xs i<numAt xs j)) (xs.size -1))=m:=by
  refine Int.le_antisymm ?_ (aE _ ?_)
  .rw[uW]at az
   obtain⟨j,aW,e⟩:=mem_getD az
   rw[fD,Array.length_toList]at aW
   rw[<-e,<-numAt_eq];exact iM j (by omega)
  .rw[uW,numAt_eq];exact getD_mem (by rw[fD,Array.length_toList];omega)
 rw[z];exact h bH t iT bI
theorem aaH {a:Addr} {items:Array Value} {ns:List Int} {m:Int} (dj:D.A.handled=none) (aI:s.heap.IsList a items) (aj:IntsAre items.toList ns) (az:m∈ns) (aE:∀a∈ns,a<=m) {Q:Value->Shared->Prop}
  (h:∀g t iT,(∀b o,s.heap.get? b=some o->g.get? b=some o)->Q (.int m t) {s with heap:=g,toks:=iT}):wpAny (cX D) D.A (call (.builtin "max") [.ref a]) Q dR s:=by
 obtain⟨xs,e,uW⟩:=SE aj
 have e:items=intItems xs:=by simpa using e
 have hsz:0<xs.size:=by
  have:0<ns.length:=List.length_pos_of_mem az
  rw[uW,fD,Array.length_toList]at this;exact this
 rw[e]at aI
 refine max_intList dj aI hsz λv bH iT bJ bI=>?_
 obtain⟨t,rfl⟩:=intItems_at bJ
 obtain⟨nI,iM⟩:=argBest_gt (numAt xs) (xs.size -1)
 have z:numAt xs (argBest (λi j=>decide (numAt xs i>numAt xs j)) (xs.size -1))=m:=by
  refine Int.le_antisymm (aE _ ?_) ?_
  .rw[uW,numAt_eq];exact getD_mem (by rw[fD,Array.length_toList];omega)
  .rw[uW]at az
   obtain⟨j,aW,e⟩:=mem_getD az
   rw[fD,Array.length_toList]at aW
   rw[<-e,<-numAt_eq];exact iM j (by omega)
 rw[z];exact h bH t iT bI
theorem aaE {a:Addr} {items:Array Value} {n:Nat} {ns:List Int} {i:Int} {k9:Tok} (aI:IsL s.heap a items n) (aj:IntsAre items.toList ns) (hz:items.size<=100000) (bI:i∈ns) {Q:Value->Shared->Prop}
  (h:Q (.int (ns.idxOf i:Nat) s.toks) {s with toks:=s.toks+1}):wpAny (cX D) D.A (call (.builtin "list.index") [.ref a,.int i k9]) Q dR s:=by
 have gD:=aj.length
 have aW:ns.idxOf i<ns.length:=List.idxOf_lt_length_iff.mpr bI
 have e:items=items.toList.toArray:=by simp
 have aR:items.toList.length=items.size:=by simp
 rw[e]at aI
 refine call_meets PySem.F.slot_list_index ⟨_,aI,rfl⟩ PySem.F.entry_list_index (PySem.F.args_list_index_2 _ _)
  (PySem.SeqAt.list_indexAt a items.toList.toArray n none #[] (.int i k9) (isInt i) (ns.idxOf i) (by rw[List.size_toArray];omega) (by omega) ?_ ?_) ⟨aI,λy cM=>(eq_isInt i k9 aj y (by simpa using cM)).at _ _,h⟩
 .show isInt i items.toList[ns.idxOf i]=true
  rw[isInt_at i aj _ (by omega) aW]
  simpa using List.getElem_idxOf aW
 .intro j aer iY
  show isInt i items.toList[j]=false
  rw[isInt_at i aj j (by simpa using aer) (by omega)]
  exact ne_of_lt_idxOf iY _
theorem HX (h:o.any p=true):∃a,o=some a/\p a=true:=by
 induction o with
 |none=>nomatch h
 |some a=>exact⟨a,rfl,h⟩
theorem HG (ok:D.Ok) (B:bz D φ J C s) {r:ay} (h:φ r=some a):(a==sysModules)=false:=by
 have:((gR D.w.params).get? sysModules).any (λo=>!sR o)=true:=by
  have e:((wL D.w.params)[sysModules]?).any (λo=>!sR o)=true/\((wL D.w.params)[sysModules]?).any (λo=>o.isFreed)=false:=by constructor<;>kernel_rfl
  obtain⟨o,bw,_⟩:=HX e.1
  rw[bw]at e
  rw[Ld bw (by decide) e.2];exact e.1
 obtain⟨o,bw,aI⟩:=HX this
 have:=ok.base _ _ bw (by simpa using aI)
 cases q:a==sysModules with
 |false=>rfl
 |true=>
  rw[beq_iff_eq.mp q]at h
  rw[(B.own _ _ h).2.1]at this;nomatch this
theorem S_ {K:Type} [DecidableEq K] {bO:List (K×Value)} {l:List (K×I)} (A:dS (i_ φ h) bO l) (k):match l.lookup k with
  |some v=>∃aO,valueAt bO k=some aO/\aZ φ h aO v
  |none=>valueAt bO k=none:=by
 induction A with
 |nil=>rfl
 |@cons p q bO l r _ ih=>
  obtain⟨y,v⟩:=q
  obtain⟨x,aO⟩:=p
  obtain⟨e,r⟩:=r
  dsimp only at e r
  subst e
  rw[List.lookup_cons]
  unfold valueAt
  rw[List.find?_cons]
  by_cases q:k=x
  .subst q;simp only[qE,qH];exact⟨aO,rfl,r⟩
  .have nI:(k==x)=false:=by simpa using q
   have iM:decide (x=k)=false:=by simpa using λz=>q z.symm
   simp only[nI,iM];exact ih
theorem Td {K:Type} [DecidableEq K] {bO:List (K×Value)} {l:List (K×I)} {k:K} (A:dS (i_ φ h) bO l) (n:(bO.map (·.1)).Nodup) (r:aZ φ h aO v):dS (i_ φ h) (stored bO k aO) (g9 l k v):=by
 have R0:∀{bO:List (K×Value)} {l:List (K×I)},dS (i_ φ h) bO l->k∉bO.map (·.1)->dS (i_ φ h) (bO++[(k,aO)]) (g9 l k v):=by
  intro bO l A
  induction A with
  |nil=>intro _;exact .cons ⟨rfl,r⟩ .nil
  |@cons p q bO l bV _ ih=>
   intro n
   obtain⟨y,fU⟩:=q
   obtain⟨x,VV⟩:=p
   obtain⟨e,bV⟩:=bV
   dsimp only at e bV
   subst e
   have:(x==k)=false:=by
    simp only[nN,sj,not_or]at n
    simpa using λz=>n.1 z.symm
   unfold g9
   rw[this]
   exact .cons ⟨rfl,bV⟩ (ih λz=>n (i9 _ z))
 by_cases m:k∈bO.map (·.1)
 .unfold stored
  rw[bT (by obtain⟨p,cA,e⟩:=List.mem_map.mp m;exact List.any_eq_true.mpr ⟨p,cA,by simpa using e⟩)]
  clear R0
  induction A with
  |nil=>simp at m
  |@cons p q bO l bV A ih=>
   obtain⟨y,fU⟩:=q
   obtain⟨x,VV⟩:=p
   obtain⟨e,bV⟩:=bV
   dsimp only at e bV
   subst e
   rw[nN]
   unfold g9
   by_cases q:x=k
   .subst q
    simp only[jW,qE]
    refine .cons ⟨rfl,r⟩ ?_
    rw[map_store_of_not_mem _ _ _ (List.nodup_cons.mp n).1]
    exact A
   .have nI:(x==k)=false:=by simpa using q
    simp only[bX q,nI]
    refine .cons ⟨rfl,bV⟩ (ih (List.nodup_cons.mp n).2 ?_)
    rcases List.mem_cons.mp m with z|z
    .exact absurd z.symm q
    .exact z
 .unfold stored
  rw[bX (λz=>m (by obtain⟨p,cA,e⟩:=List.any_eq_true.mp z;exact List.mem_map.mpr ⟨p,cA,by simpa using e⟩))]
  exact R0 A m
set_option tactic.hygienic true in
theorem aji {K:Type} [DecidableEq K] {bO:List (K×Value)} (n:(bO.map (·.1)).Nodup) (k) (v):((stored bO k v).map (·.1)).Nodup:=by
 unfold stored
 split
 .rw[keys_map_store];exact n
 .rename_i h
  rw[qd,Ja]
  refine⟨n,by simp,λa aY b aP=>?_⟩
  simp only[nN,List.map_nil,sj,B0,or_false]at aP
  subst aP
  rintro rfl
  obtain⟨p,cA,e⟩:=List.mem_map.mp aY
  exact h (List.any_eq_true.mpr ⟨p,cA,by simpa using e⟩)
theorem agy {K:Type} [DecidableEq K] {h:Heap} {iL:List (K×Value)} {m:List (K×I)} (G:dS (i_ φ h) iL m):∀{bO:List (K×Value)} {l:List (K×I)},dS (i_ φ h) bO l->(bO.map (·.1)).Nodup->
  dS (i_ φ h) (merged bO iL) (m.foldl (λa q=>g9 a q.1 q.2) l):=by
 induction G with
 |nil=>exactλA U=>A
 |@cons p q iL m r _ ih=>exactλ{bO l} A n=>ih (show dS _ (stored bO p.1 p.2) (g9 l q.1 q.2)from r.1▸Td A n r.2) (aji n _ _)
@[elab_as_elim] theorem yO {r:ay} {P:Value->Prop} (B:bz D φ J C s) (h:C.h r=some (.cB l)) (x:aZ φ s.heap aO (.ref r))
  (k:∀a bO,φ r=some a->s.heap.DictOf (intKind c3 D.w) a bO->dS (i_ φ s.heap) bO l->P (.ref a)):P aO:=by
 obtain⟨a,rfl,aY⟩:=x.DN
 obtain⟨dB,bk,bO,hd,G⟩:=B.obs _ _ h
 rw[aY]at bk;nomatch bk
 exact k a bO aY hd G
@[elab_as_elim] theorem NK {r:ay} {P:Value->Prop} (B:bz D φ J C s) (h:C.h r=some (.jn l)) (x:aZ φ s.heap aO (.ref r))
  (k:∀a bO,φ r=some a->s.heap.DictOf (strKind c3 D.w) a bO->dS (i_ φ s.heap) bO l->P (.ref a)):P aO:=by
 obtain⟨a,rfl,aY⟩:=x.DN
 obtain⟨dB,bk,bO,hd,G⟩:=B.obs _ _ h
 rw[aY]at bk;nomatch bk
 exact k a bO aY hd G
theorem Wj {n m:Nat} (h:n<=100000) (e:m=n):(m:Int)<2^63:=by omega
theorem vF (h:n<=100000) (e:m=n):m<=sizeLine:=by rw[qI];omega
theorem acm {items:Array Value} (h:items.toList.getLast?=some y):(items.eraseIdxIfInBounds (items.size -1)).toList=items.toList.dropLast:=by
 have e:items=(items.toList.dropLast++[y]).toArray:=by obtain⟨jG,e⟩:=List.getLast?_eq_some_iff.mp h;rw[e,List.dropLast_concat,<-e]
 have bK:items.size -1=items.toList.dropLast.length:=by rw[List.length_dropLast];simp
 rw[bK]
 generalize items.toList.dropLast=l at e
 subst e
 rw[kl_erase];simp
theorem aaJ {a:Addr} {items:Array Value} {r:ay} (ok:D.Ok) (B:bz D φ J C s) (aY:φ r=some a) (dJ:IsL s.heap a items n) (rs:fG φ s.heap items.toList aa) (aR:items.size=aa.length)
  (hz:aa.length<=100000) (bJ:aa.getLast?=some v):wpAny (cX D) D.A (call (.builtin "list.pop") [.ref a]) (d6 aZ D J φ C s (Is v ⟨C.h.set r (.list aa.dropLast),C.k⟩)) dR s:=by
 have aeu:=List.getLast?_eq_getElem?▸bJ
 obtain⟨y,cM,DZ⟩:=rs.get aeu
 have aeU:items.toList.getLast?=some y:=by rw[List.getLast?_eq_getElem?,rs.len];exact cM
 refine call_meets PySem.F.slot_list_pop ⟨_,dJ,rfl⟩ PySem.F.entry_list_pop (PySem.F.args_list_pop_1 _) (PySem.MeetsSeq.list_pop_last a items n y (by rw[<-vP,aR];exact cM) (vF hz aR)) ⟨dJ,?_⟩
 exact MX ok B aY (OT ..) (dJ.update _) (by rw[acm aeU];exact rs.dropLast) DZ s.toks
theorem UH {K:Type} [DecidableEq K] {knd:KeyKind c3 D.w K} {h:Heap} {bO:List (K×Value)} (hd:h.DictOf knd a bO):(bO.map (·.1)).Nodup:=hd.elim λU h=>h.elim λU h=>h.elim λU h=>h.2.2.2.2.2
theorem Vp {K:Type} [DecidableEq K] {knd:KeyKind c3 D.w K} {r:ay} {bO:List (K×Value)} {l:List (K×I)} {mk:List (K×I)->cw} (ok:D.Ok) (B:bz D φ J C s)
  (sM:∀φ g a bO l,g.DictOf knd a bO->dS (i_ φ g) bO l->nk D.w φ g a (mk l)) (aY:φ r=some a) (aR:Heap.SameBut a s.heap g) (bM:g.DictOf knd a bO)
  (A:(∀b o,s.heap.get? b=some o->f7 o=true->g.get? b=some o)->dS (i_ φ g) bO l) (t):d6 aZ D J φ C s (Is .none ⟨C.h.set r (mk l),C.k⟩) .none {s with heap:=g,toks:=t}:=by
 refine iu λaH ez=>?_
 obtain⟨gM,wY,yF⟩:=Heap.dictOf_iff.mp bM
 obtain⟨ao,jo,bE,u7,_⟩:=yF
 obtain⟨bU,l⟩:=B.mut (g:=g) (gh:=mk l) ok aY (λb o n e=>aR.extBut b o n e) wY (by unfold f7;rw[u7]) (λim=>sM _ _ _ _ _ bM (A im)) t
 refine ez ?_
 exact⟨.none,_,_,l,.none,bU,rfl,rfl⟩
theorem aaL {a b:Addr} {r bV:ay} {bO iL:List (Int×Value)} {l m:List (Int×I)} (ok:D.Ok) (B:bz D φ J C s) (aY:φ r=some a) (aP:φ bV=some b) (hd:s.heap.DictOf (intKind c3 D.w) a bO) (oA:s.heap.DictOf (intKind c3 D.w) b iL)
  (A:dS (i_ φ s.heap) bO l) (G:dS (i_ φ s.heap) iL m) (bG:r≠bV) (hz:l.length+m.length<1000):
  wpAny (cX D) D.A (call (.builtin "dict.update") [.ref a,.ref b]) (d6 aZ D J φ C s (Is .none ⟨C.h.set r (.cB (m.foldl (λa q=>g9 a q.1 q.2) l)),C.k⟩)) dR s:=by
 have fJ:a≠b:=λz=>bG (B.inj _ _ _ aY (z▸aP))
 exact call_meetsIn PySem.F.slot_dict_update hd.typeIs PySem.F.entry_dict_update (PySem.F.args_dict_update_2 _ _) (meets_dict_update (intKind c3 D.w) a b fJ (HG ok B aP))
  ⟨bO,iL,hd,oA,(by rw[A.len,G.len,qI];omega),λbH aey U aR=>Vp (mk:=.cB) ok B (λU U U bO U d A=>⟨bO,d,A⟩) aY aR aey (λim=>(agy G A (UH hd)).mono λU U y=>⟨y.1,y.2.mono (λU U e=>e) im⟩) s.toks⟩
def Xy (D:dU) (J:aL) (φ:dG) (C:bL) (s:Shared) (t:Sem Value) (q:I×bL):Prop:=wpAny (cX D) D.A t (d6 aZ D J φ C s (Is q.1 q.2)) dR s
theorem akD {f:String} {q:I×bL} (ok:D.Ok) (w:pI f aa) (e:P7 D.p w C=some q) (B:bz D φ J C s) (r:fG φ s.heap eG aa):
  wpAny (cX D) D.A (call (.builtin f) eG) (d6 aZ D J φ C s (Is q.1 q.2)) dR s:=by
 show Xy D J φ C s (call (.builtin f) eG) q
 have dj:=ok.room.1
 induction w
 .--len of a list
  refine lC r λU r=>ud e λo bw e=>?_
  induction o with
  |list xs=>exact l_ e λhz e=>d7 e (n0 B bw r λa items n aY dJ d8 rs aR=>call_len_list d8 (Wj hz aR) (aR▸rj B (.int _ _)))
  |k4 o=>exact pZ e λl aI e=>l_ e λhz e=>d7 e (by
    obtain⟨a,items,rfl,d8,aR,-⟩:=RN B bw aI r
    exact call_len_list d8 (Wj hz aR) (aR▸rj B (.int _ _)))
  |_=>exact n5 (C:=C) e
 .refine lC r λU r=>l_ e λhz e=>d7 e ?_
  obtain⟨b,t,rfl,rfl⟩:=r.wu
  have aP:b.size<=100000:=by simpa using hz
  refine len_bytes (by omega) ?_
  rw[show(b.size:Int)=((b.toList.map UInt8.toNat).length:Nat) by simp]
  exact rj B (.int _ _)
 .exact d7 e (lC r λU r=>r.j9 λt=>call_abs_int λu iT=>rj B (.int _ _))
 .exact d7 e (BH r λU U r bV=>r.j9 λt=>bV.j9 λf9=>min_two_ints dj λbH iT k=>uf ok B k (by split<;>exact .int _ _))
 .exact d7 e (BH r λU U r bV=>r.j9 λt=>bV.j9 λf9=>max_two_ints dj λbH iT k=>uf ok B k (by split<;>exact .int _ _))
 .refine lC r λU r=>o7 e λxs bw e=>pZ e λns bG e=>?_
  induction ns with
  |nil=>exact n5 (C:=C) e
  |cons i l=>exact d7 e (n0 B bw r λa items n aY dJ d8 rs aR=>aaI dj d8 (C6 rs bG) (K5 l i).1 (K5 l i).2 λg t iT k=>uf ok B k (.int _ _))
 .refine lC r λU r=>o7 e λxs bw e=>pZ e λns bG e=>?_
  induction ns with
  |nil=>exact n5 (C:=C) e
  |cons i l=>exact d7 e (n0 B bw r λa items n aY dJ d8 rs aR=>aaH dj d8 (C6 rs bG) (K4 l i).1 (K4 l i).2 λg t iT k=>uf ok B k (.int _ _))
 .exact BH r λU U r bV=>o7 e λxs bw e=>l_ e λhz e=>d7 e (n0 B bw r λa items n aY dJ d8 rs aR=>
   append_at dJ (λg aR u5=>MX ok B aY aR u5 (by simpa using rs.append (.cons bV .nil)) .none s.toks) (by rw[qI];omega))
 .exact lC r λU r=>o7 e λxs bw e=>pZ e λv bJ e=>l_ e λhz e=>d7 e (n0 B bw r λa items n aY dJ d8 rs aR=>aaJ ok B aY dJ rs aR hz bJ)
 .exact BH r λU U r bV=>o7 e λxs bw e=>l_ e λhz e=>pZ e λns bG e=>l_ e λbI e=>d7 e (n0 B bw r λa items n aY dJ d8 rs aR=>bV.j9 λt=>
   aaE dJ (C6 rs bG) (aR▸hz) bI (rj B (.int _ _)))
 .refine BH r λU U r bV=>GL e λl bw e=>GL e λm yI e=>gE e λhz e=>d7 e (yO B bw r λa bO aY hd A=>yO B yI bV λb iL aP oA G=>?_)
  rw[gI,lH,lH]at hz
  exact aaL ok B aY aP hd oA A G hz.1 hz.2
 .exact n5 (C:=C) e
theorem akC (ok:D.Ok) (e:builtin D.p f aa C=some q) (B:bz D φ J C s) (r:fG φ s.heap eG aa):
  wpAny (cX D) D.A (call (.builtin f) eG) (d6 aZ D J φ C s (Is q.1 q.2)) dR s:=akD ok (PU f aa) e B r
end
section
variable {E:Value->Shared->Prop}
theorem aep (h:Q false s):wpAny (model prog w) A (Builtin.List.listLengthHint (.bytes b t)) Q E s:=by
 unfold Builtin.List.listLengthHint
 refine eP (wpAny_specialOf (typeIs_bytes s b t) FB.slot_bytes_len.lookup ?_)
 generalize Sh:("bytes.__len__":String)=ae6
 wp_delta
 rw[show splitId ae6=some ("bytes","__len__")from by subst Sh;decide+kernel]
 subst Sh
 refine eP (wpAny_isInstance (T:="bytes") (b:=true) (typeIs_bytes s b t) (by rw[isSubtype_type];kernel_rfl) ?_)
 refine wpAny_ite_split (λCV=>absurd CV (by decide)) (λU=>?_)
 refine wpAny_ite_split (λU=>?_) (λCV=>absurd (by decide+kernel) CV)
 exact eP (wpAny_typeOf (T:="bytes") (typeIs_bytes s b t) (jJ h))
abbrev Jq (b:Array UInt8):Nat->Value->Prop:=λi v=>∃c u,b[i]?=some c/\v=.int (c.toNat:Int) u
theorem ada {R:Result->Shared->Prop} (dj:A.handled=none) (gD:b.size<=2^24) (af) (res) (QW) (oz:s.heap.get? af=some {cls:=.type "list",data:=.seq #[] QW})
  (cC:∀bH iT pN jx,(∀b o,b≠af->s.heap.get? b=some o->bH.get? b=some o)->bH.get? af=some {cls:=.type "list",dict:=none,data:=.seq pN jx,slots:=#[]}->
   ItemsOf (Jq b) pN b.size->R (.ok (.ret res)) {s with heap:=bH,toks:=iT}):
  wpAny (model prog w) A.in1 (Builtin.List.listExtendWith (.ref af) (.bytes b t) res)
   (λfin bW=>match fin with| .done f=>R (.ok f) bW| .again jx=>jx.quiet=true/\codeAny (model prog w) A jx R bW) (λe bW=>R (.error e) bW) s:=by
 have aea:af<s.heap.objs.size:=tF oz
 have ad8:af≠s.heap.objs.size:=qG aea
 have ad9:af∉[s.heap.objs.size]:=λbM=>ad8 (List.mem_singleton.mp bM)
 have W:=(KBw.walks (prog:=prog) (w:=w) (A:=A.in1) dj s.heap.objs.size b t).toS
 have key:∀h KH iT,KBw.IsBytesIter h s.heap.objs.size b t 0->(∀b o,b≠af->s.heap.get? b=some o->h.get? b=some o)->
   h.get? af=some {cls:=.type "list",data:=.seq #[] KH}->codeAny (model prog w) A (.builtin "list.extend.loop" ⟨[.ref af,.ref s.heap.objs.size,res],[]⟩) R {s with heap:=h,toks:=iT}:=by
  intro h KH iT nW bI Li
  refine codeAny_extend_loopS W (by rw[qI];omega) af ad9 res b.size 0 _ #[] KH rfl (lY _) nW Li (ItemsOf.nil _) λbW pN jx bM CU pU=>?_
  rw[Moved.eq_with bM]
  refine cC bW.heap bW.toks pN jx (λb o aP e=>bM.heap b o (λLq=>?_) (bI b o aP e)) CU pU
  rcases List.mem_cons.mp Lq with ff|Lq
  .exact aP ff
  .exact absurd (tF e) (by rw[List.mem_singleton.mp Lq];exact Nat.lt_irrefl _)
 unfold Builtin.List.listExtendWith
 refine eP (wpAny_typeOf (T:="bytes") (typeIs_bytes s b t) ?_)
 have az:Builtin.List.listSameRef (.ref af) (.bytes b t)=false:=rfl
 have aE:(Value.type "bytes"==Value.type "list")=false:=by decide
 have b8:(Value.type "bytes"==Value.type "tuple")=false:=by decide
 simp only[az,aE,b8,Jj,nL,xN]
 refine eP (KBw.pyIter_bytes ?_)
 refine eP (qF (aep ?_))
 have aeq:KBw.IsBytesIter (s.heap.push {cls:=.type "bytes_iterator",data:=.fields #[.bytes b t,.int 0 0]}) s.heap.objs.size b t 0:=⟨_,nc _ rfl,rfl,rfl⟩
 have Li:=mF {cls:=.type "bytes_iterator",data:=.fields #[.bytes b t,.int 0 0]} oz
 exact wpAny_ite_split (λCV=>absurd CV (by decide)) (λU=>jJ ⟨plainId_quiet F.plain_extend_loop _,key _ QW _ aeq (λb o U e=>mF _ e) Li⟩)
theorem afe {R:Result->Shared->Prop} (dj:A.handled=none) (gD:b.size<=2^24) (af) (oz:s.heap.get? af=some {cls:=.type "list",data:=.seq #[]})
  (cC:∀bH iT pN jx,(∀b o,b≠af->s.heap.get? b=some o->bH.get? b=some o)->bH.get? af=some {cls:=.type "list",dict:=none,data:=.seq pN jx,slots:=#[]}->
   ItemsOf (Jq b) pN b.size->R (.ok (.ret .none)) {s with heap:=bH,toks:=iT}):
  wpAny (model prog w) A.in1 (Builtin.«list.__init__» ⟨[.ref af,.bytes b t],[]⟩)
   (λfin bW=>match fin with| .done f=>R (.ok f) bW| .again jx=>jx.quiet=true/\codeAny (model prog w) A jx R bW) (λe bW=>R (.error e) bW) s:=by
 show wpAny _ _ (do let ajY <-Builtin.List.listItems (.ref af);Builtin.List.listUpdate (.ref af) (λU=>#[]);letGo ajY.toList.reverse;Builtin.List.listExtendWith (.ref af) (.bytes b t) .none) _ _ s
 refine eP ?_
 unfold Builtin.List.listItems
 refine eP (wpAny_seqItems oz rfl (jJ ?_))
 refine eP (wpAny_updateSeq oz rfl ?_)
 have aeb:=Jo (Obj.mapSeq (λU=>(#[]:Array Value))) oz rfl
 have akm:∀b o,b≠af->s.heap.get? b=some o->(s.heap.update af (Obj.mapSeq (λU=>(#[]:Array Value)))).get? b=some o:=
  λb o aP e=>(Heap.get?_update_other _ _ (Ne.symm aP)).trans e
 refine eP (wpAny_letGo ?_)
 refine ada dj gD af .none _ aeb λbH iT pN jx bI CU pU=>?_
 exact cC bH iT pN jx (λb o aP e=>bI b o aP (akm b o aP e)) CU pU
theorem aaP {Q:Value->Shared->Prop} (dj:A.handled=none) (gD:b.size<=2^24)
  (fm:∀bH iT pN jx,(∀b o,s.heap.get? b=some o->bH.get? b=some o)->
   bH.get? s.heap.objs.size=some {cls:=.type "list",dict:=none,data:=.seq pN jx,slots:=#[]}->ItemsOf (Jq b) pN b.size->Q (.ref s.heap.objs.size) {s with heap:=bH,toks:=iT}):
  wpAny (model prog w) A (call (.type "list") [.bytes b t]) Q E s:=by
 refine callType_codes (Q₁:=λobj br=>obj=.ref s.heap.objs.size/\br={s with heap:=s.heap.push {cls:=.type "list",data:=.seq #[]}}) F.called_list (F.typeCall_list_1 _) F.entry_list_init
  (code_list_new _ ⟨rfl,rfl⟩) λobj br t5=>?_
 obtain⟨rfl,rfl⟩:=t5
 have oz:(s.heap.push {cls:=.type "list",data:=.seq #[]}).get? s.heap.objs.size=some {cls:=.type "list",data:=.seq #[]}:=nc _ rfl
 refine⟨⟨_,oz,rfl⟩,F.args_list_init_2 _ _,afe (A:=A.in1) dj gD _ oz λbH iT pN jx bI CU pU=>?_⟩
 exact⟨rfl,fm bH iT pN jx (λb o e=>bI b o (qG (tF e)) (mF _ e)) CU pU⟩
end
section
theorem aor {eg:Array Value} {f:Nat->Int} (aY:eg.size=n) (bJ:∀(j:Nat) v,eg[j]?=some v->∃t,v=.int (f j) t):fG φ h eg.toList ((List.range n).map λi=>I.int (f i)):=by
 refine .of_get (by simp[aY]) λi aO v bk bK=>?_
 obtain⟨t,rfl⟩:=bJ i aO (by simpa using bk)
 rw[jI]at bK
 obtain⟨j,aW,rfl⟩:=Option.map_eq_some_iff.mp bK
 rw[z0]at aW
 .nomatch aW;exact .int _ _
 .have:=(List.getElem?_eq_some_iff.mp bk).1
  simp at this;omega
theorem an6 {n:Int} (h:0<=n/\n<256):(n.toNat.toUInt8).toNat=n.toNat:=by
 rw[Nat.toUInt8_eq,UInt8.toNat_ofNat'];omega
theorem aaF (ok:D.Ok) (B:bz D φ J C s) (r:aZ φ s.heap aO (.bytes l)) (hz:l.length<=100000):
  wpAny (cX D) D.A (call (.type "list") [aO]) (d6 aZ D J φ C s (Is (.ref (C.k::D.p)) ⟨C.h.set (C.k::D.p) (.list (l.map λb:Nat=>.int b)),C.k+1⟩)) dR s:=by
 obtain⟨b,t,rfl,rfl⟩:=r.wu
 have aP:b.size<=100000:=by simpa using hz
 refine aaP ok.room.1 (by omega) λg iT eg jx k k6 pU=>xm ok B (nH _) k k6 (.of_get (by simp[pU.1]) λi aO v bk bK=>?_) iT
 obtain⟨c,u,az,rfl⟩:=pU.2 i aO (by simpa using bk)
 rw[rF,jI,vP,az]at bK
 nomatch bK;exact .int _ _
theorem aaG {a b:Int} (ok:D.Ok) (B:bz D φ J C s) (r:aZ φ s.heap aO (.eo a b)) (hz:(decide (b -a<=1000)&&(k8 a&&k8 b))=true):
  wpAny (cX D) D.A (call (.type "list") [aO]) (d6 aZ D J φ C s (Is (.ref (C.k::D.p)) ⟨C.h.set (C.k::D.p) (.list (Be a b)),C.k+1⟩)) dR s:=by
 simp only[gI,lH,LC]at hz
 refine iu λaH ez=>?_
 obtain⟨dB,t,u,v,rfl,aQ⟩:=r.VM
 have bG:Builtin.Range.rangeSize a b 1=((b -a).toNat:Nat):=by rw[rangeSize_one];split<;>omega
 have C3:Builtin.Range.small a b 1=true:=small_one (by omega) (by omega) (by omega) (by omega)
 refine ez ?_
 refine call_list_range ok.room.1 aQ C3 bG (by omega) λg iT eg jx k k6 pU=>?_
 exact xm ok B (nH _) k k6 (aor pU.1 λj v bJ=>by obtain⟨t,e⟩:=pU.2 j v bJ;exact⟨t,by rw[e,Int.mul_one]⟩) iT
theorem aaK (ok:D.Ok) (B:bz D φ J C s) (d8:s.heap.IsList a items) (rs:fG φ s.heap items.toList aa) (hz:items.size<=sizeLine):
  wpAny (cX D) D.A (call (.type "tuple") [.ref a]) (d6 aZ D J φ C s (Is (.tup aa) C)) dR s:=by
 refine call_tuple_list d8 (λbH k=>?_) hz
 have gK:∀b o,s.heap.get? b=some o->(bH.push {cls:=.type "tuple",data:=.seq items}).get? b=some o:=λb o e=>mF _ (k b o e)
 exact uf ok B gK (.Oh (nc _ rfl) (rs.mono λU U y=>y.mono (λU U e=>e) λb o e U=>gK b o e))
theorem aaC {a:Addr} (ok:D.Ok) (B:bz D φ J C s) (d8:s.heap.IsList a items) (rs:fG φ s.heap items.toList aa) (hz:items.size<=sizeLine) (aI:xd aa=some l):
  wpAny (cX D) D.A (call (.type "bytes") [.ref a]) (d6 aZ D J φ C s (Is (.bytes l) C)) dR s:=by
 refine iu λaH ez=>?_
 obtain⟨ns,aj,aQ,rfl⟩:=ajQ rs aI
 refine ez ?_
 refine call_bytes_ints (by simpa using d8) aj aQ (by simpa using hz) ok.room.1 λg t k bI=>uf ok B bI ?_
 have:(byteArr ns).toList.map UInt8.toNat=ns.map Int.toNat:=by
  unfold byteArr
  simp only[rF]
  refine List.map_congr_left λn bG=>?_
  exact an6 (aQ n bG)
 rw[<-this];exact .bytes _ _
theorem aaD {r:ay} (ok:D.Ok) (B:bz D φ J C s) (aY:φ r=some a) (hd:s.heap.DictOf (intKind c3 D.w) a bO) (G:dS (i_ φ s.heap) bO l) (hz:l.length<1000):
  wpAny (cX D) D.A (call (.type "dict") [.ref a]) (d6 aZ D J φ C s (Is (.ref (C.k::D.p)) ⟨C.h.set (C.k::D.p) (.cB l),C.k+1⟩)) dR s:=by
 refine kt_call_dict (HG ok B aY) hd (by rw[G.len,qI];omega) λbH oA aR=>?_
 refine iu λaH ez=>?_
 have gK:∀b o,s.heap.get? b=some o->bH.get? b=some o:=λb o e=>aR.extBut b o (qG (tF e)) (mF _ e)
 obtain⟨gM,wY,yF⟩:=Heap.dictOf_iff.mp oA
 obtain⟨ao,jo,bE,u7,_⟩:=yF
 refine ez ?_
 exact Vb (gh:=.cB _) ok B (nH _) gK wY (by unfold f7;rw[u7]) ⟨_,oA,G.mono λU U y=>⟨y.1,y.2.mono (λU U e=>e) λb o e U=>gK b o e⟩⟩ s.toks
theorem aoc {eu:Array Value} (rs:fG φ h eu.toList aa):eu.size=aa.length:=by have:=rs.len;rwa [Array.length_toList]at this
theorem akM (ok:D.Ok) (w:pK f aa) (e:UI D.p w C=some q) (B:bz D φ J C s) (r:fG φ s.heap eG aa):
  wpAny (cX D) D.A (call (.type f) eG) (d6 aZ D J φ C s (Is q.1 q.2)) dR s:=by
 induction w
 .exact d7 e (lC r λU r=>r.j9 λt=>call_int_int (rj B (.int _ _)))
 .exact lC r λU r=>o7 e λxs bw e=>l_ e λhz e=>d7 e (n0 B bw r λa items n aY dJ d8 rs aR=>call_list_seq a (.inl rfl) dJ rfl rfl (λbH jx k k6=>xm ok B (nH _) k k6 rs s.toks) (vF hz aR))
 .exact lC r λU r=>l_ e λhz e=>d7 e (r.En λa eu n aY rs=>call_list_seq a (.inr rfl) aY rfl rfl (λbH jx k k6=>xm ok B (nH _) k k6 rs s.toks) (vF hz (aoc rs)))
 .exact lC r λU r=>l_ e λhz e=>d7 e (aaF ok B r hz)
 .exact lC r λU r=>gE e λhz e=>d7 e (aaG ok B r hz)
 .exact lC r λaO r=>d7 e (by
   obtain⟨a,eu,n,rfl,aY,rs⟩:=r.Em
   exact call_tuple_same ⟨_,aY,rfl,n,rfl⟩ (rj B r))
 .exact lC r λU r=>o7 e λxs bw e=>l_ e λhz e=>d7 e (n0 B bw r λa items n aY dJ d8 rs aR=>aaK ok B d8 rs (vF hz aR))
 .exact lC r λU r=>gE e λhz e=>d7 e (r.j9 λt=>call_range_1 (uf ok B (λb o e=>mF _ e) (.eo (IsRange.new ..))))
 .exact BH r λU U r bV=>gE e λhz e=>d7 e (r.j9 λt=>bV.j9 λf9=>call_range_2 (uf ok B (λb o e=>mF _ e) (.eo (IsRange.new ..))))
 .exact lC r λU r=>o7 e λxs bw e=>l_ e λhz e=>pZ e λl aI e=>d7 e (n0 B bw r λa items n aY dJ d8 rs aR=>aaC ok B d8 rs (vF hz aR) aI)
 .exact lC r λU r=>GL e λl bw e=>l_ e λhz e=>d7 e (yO B bw r λa bO aY hd G=>aaD ok B aY hd G hz)
 .exact n5 (C:=C) e
theorem akL (ok:D.Ok) (e:jk D.p f aa C=some q) (B:bz D φ J C s) (r:fG φ s.heap eG aa):
  wpAny (cX D) D.A (call (.type f) eG) (d6 aZ D J φ C s (Is q.1 q.2)) dR s:=akM ok (UO f aa) e B r
end
section
theorem Iv (h:s5 e=true) (o i):subscripted e false o i=operate [o,i] (getItem o i):=by
 nomatch e<;>first|rfl|nomatch h
theorem Ss (aR:s5 mz=true) (B:bz D φ J C s) (d8:s.heap.IsList a items) (rs:fG φ s.heap items.toList xs) (hz:vg i=true) (bJ:xs[i.toNat]?=some v):
  wpAny (cX D) D.A (subscriptTail value mz (.ref a) (.int i k9)) (d6 aZ D J φ C s (Is v C)) dR s:=by
 rw[Hj]at hz
 obtain⟨y,cM,DZ⟩:=rs.get bJ
 exact tail_any d8.typeIs slot_list_getitem.lookup (wpAny_getItem_list d8 hz.1 (by omega) (by rw[<-vP];exact cM) (rj B DZ)) (Iv aR _ _)
theorem Sq {K:Type} [DecidableEq K] {knd:KeyKind c3 D.w K} {bO:List (K×Value)} {l:List (K×I)} {k:K} (bI:knd.is k p9=true) (aR:s5 mz=true) (B:bz D φ J C s) (hd:s.heap.DictOf knd a bO)
  (G:dS (i_ φ s.heap) bO l) (bJ:l.lookup k=some v):wpAny (cX D) D.A (subscriptTail value mz (.ref a) p9) (d6 aZ D J φ C s (Is v C)) dR s:=by
 have:=S_ G k
 rw[bJ]at this
 obtain⟨aO,az,aE⟩:=this
 exact tail_any hd.typeIs slot_dict_getitem.lookup (wpAny_getItem_of bI hd.mapOf az (rj B aE)) (Iv aR _ _)
theorem ae4 (aR:s5 mz=true) (B:bz D φ J C s) (aY:s.heap.get? a=some (xF eu n)) (rs:fG φ s.heap eu.toList xs) (hz:vg i=true) (bJ:xs[i.toNat]?=some v):
  wpAny (cX D) D.A (subscriptTail value mz (.ref a) (.int i k9)) (d6 aZ D J φ C s (Is v C)) dR s:=by
 rw[Hj]at hz
 obtain⟨y,cM,DZ⟩:=rs.get bJ
 have bY:IsTup s.heap a eu:=⟨_,aY,rfl,n,rfl⟩
 have iY:=(List.getElem?_eq_some_iff.mp cM).1
 rw[Array.length_toList]at iY
 have az:i<eu.size:=by omega
 exact tail_any bY.typeIs slot_tuple_getitem.lookup (getItem_tuple bY (by omega) (by omega) (j:=i.toNat) (by simp[seqIndex?,Int.not_lt.mpr hz.1,hz.1,az]) (by rw[<-vP];exact cM) (rj B DZ)) (Iv aR _ _)
theorem aeW {v:Nat} (aR:s5 mz=true) (B:bz D φ J C s) (hz:(decide (0<=i)&&decide ((b.toList.map UInt8.toNat).length<=100000))=true) (bJ:(b.toList.map UInt8.toNat)[i.toNat]?=some v):
  wpAny (cX D) D.A (subscriptTail value mz (.bytes b t) (.int i k9)) (d6 aZ D J φ C s (Is (.int v) C)) dR s:=by
 rw[gI,lH,lH]at hz
 rw[jI]at bJ
 obtain⟨c,aN,rfl⟩:=Option.map_eq_some_iff.mp bJ
 have iY:=(List.getElem?_eq_some_iff.mp aN).1
 have:=getItem_bytes (prog:=c3) (w:=D.w) (A:=D.A) (E:=dR) (s:=s) (l:=b.toList) (i:=i) (t:=t) (u:=k9) (Q:=d6 aZ D J φ C s (Is (.int (c.toNat:Nat)) C))
 refine tail_any (typeIs_bytes s b t) FB.slot_bytes_getitem.lookup ?_ (Iv aR _ _)
 have aE:=this (by simp only[fD]at hz;omega) hz.1 (by omega) (by
  rw[show b.toList.getD i.toNat 0=c by rw[kU,aN];rfl]
  exact rj B (.int _ _))
 simpa using aE
@[elab_as_elim] theorem P8 {P:Value->List Nat->Prop} (x:aZ φ h aO (.bytes l)) (k:∀b t,P (.bytes b t) (b.toList.map UInt8.toNat)):P aO l:=by
 obtain⟨b,t,rfl,rfl⟩:=x.wu;exact k b t
theorem akJ {a b:I} {dZ eA:Value} {value mz:Expr} (ok:D.Ok) (aR:s5 mz=true) (w:tL a b) (e:SN w C=some q) (B:bz D φ J C s) (r:aZ φ s.heap dZ a) (bV:aZ φ s.heap eA b):
  wpAny (cX D) D.A (subscriptTail value mz dZ eA) (d6 aZ D J φ C s (Is q.1 q.2)) dR s:=by
 induction w
 .refine bV.j9 λk9=>ud e λo bw e=>?_
  induction o with
  |list xs=>exact gE e λhz e=>G_ e λv bJ=>n0 B bw r λa items n aY dJ d8 rs U=>Ss aR B d8 rs hz bJ
  |cB l=>exact G_ e λv bJ=>yO B bw r λa bO aY hd G=>Sq (intKind_is c3 D.w _ _) aR B hd G bJ
  |k4 o=>exact gE e λhz e=>pZ e λl aI e=>pZ e λx bE e=>d7 e (by
    obtain⟨a,items,rfl,d8,qm,rs⟩:=RN B bw aI r
    exact Ss aR B d8 rs hz (Eq.trans jI (cJ (Option.map I.int) bE)))
  |_=>exact n5 (C:=C) e
 .exact bV.Ir λk9=>NJ e λl bw e=>G_ e λv bJ=>NK B bw r λa bO aY hd G=>Sq (strKind_is c3 D.w _ _) aR B hd G bJ
 .exact bV.j9 λk9=>gE e λhz e=>G_ e λv bJ=>r.En λa eu n aY rs=>ae4 aR B aY rs hz bJ
 .refine bV.j9 λk9=>gE e λhz e=>pZ e λv bJ e=>d7 e ?_
  obtain⟨b,t,rfl,rfl⟩:=r.wu
  exact aeW aR B hz bJ
 .exact n5 (C:=C) e
theorem akI (ok:D.Ok) (aR:s5 mz=true) (e:item a b C=some q) (B:bz D φ J C s) (r:aZ φ s.heap dZ a) (bV:aZ φ s.heap eA b):
  wpAny (cX D) D.A (subscriptTail value mz dZ eA) (d6 aZ D J φ C s (Is q.1 q.2)) dR s:=akJ ok aR (GQ a b) e B r bV
theorem Vk (h:d6 aZ D J φ C s (Is v aT) aO bW):lN D φ C s (λcz gf=>cz=J/\gf=aT) () bW:=by
 obtain⟨fU,cg,oi,l,NA,bU,bk,bK⟩:=h
 exact⟨cg,J,_,l,bU,rfl,bK⟩
theorem VZ {K:Type} [DecidableEq K] {knd:KeyKind c3 D.w K} {r:ay} {bO:List (K×Value)} {l:List (K×I)} {mk:List (K×I)->cw} {k:K} (ok:D.Ok) (bI:knd.is k p9=true) (B:bz D φ J C s)
  (sM:∀φ g a bO l,g.DictOf knd a bO->dS (i_ φ g) bO l->nk D.w φ g a (mk l)) (aY:φ r=some a) (hd:s.heap.DictOf knd a bO) (G:dS (i_ φ s.heap) bO l) (gG:aZ φ s.heap aO v) (hz:l.length<1000):
  wpAny (cX D) D.A (setItem (.ref a) p9 aO) (lN D φ C s λcz gf=>cz=J/\gf=⟨C.h.set r (mk (g9 l k v)),C.k⟩) dR s:=
 wpAny_setItem_pairs bI hd (λbH oA aR=>Vk (Vp ok B sM aY aR oA (λim=>Td (G.mono λU U y=>⟨y.1,y.2.mono (λU U e=>e) im⟩) (UH hd) (gG.mono (λU U e=>e) im)) (s.toks+1))) (by rw[G.len,qI];omega)
theorem akP {a b v:I} {dZ eA aO:Value} (ok:D.Ok) (w:tL a b) (e:V0 v w C=some q) (B:bz D φ J C s) (r:aZ φ s.heap dZ a) (bV:aZ φ s.heap eA b) (gG:aZ φ s.heap aO v):
  wpAny (cX D) D.A (setItem dZ eA aO) (lN D φ C s λcz gf=>cz=J/\gf=q.2) dR s:=by
 induction w
 .refine bV.j9 λk9=>ud e λo bw e=>?_
  induction o with
  |list xs=>exact gE e λhz e=>d7 e (n0 B bw r λa items n aY dJ d8 rs qm=>by
    simp only[gI,lH]at hz
    exact ki_setAt dJ hz.1.1 (by omega) (by omega) (Vk (MX ok B aY (OT ..) (dJ.update _) (by rw[Array.toList_setIfInBounds];exact rs.set gG _) .none s.toks)))
  |cB l=>exact l_ e λhz e=>d7 e (yO B bw r λa bO aY hd G=>VZ ok (intKind_is c3 D.w _ _) B (λU U U bO U d A=>⟨bO,d,A⟩) aY hd G gG hz)
  |_=>exact n5 (C:=C) e
 .exact bV.Ir λk9=>NJ e λl bw e=>l_ e λhz e=>d7 e (NK B bw r λa bO aY hd G=>VZ ok (strKind_is c3 D.w _ _) B (λU U U bO U d A=>⟨bO,d,A⟩) aY hd G gG hz)
 all_goals exact n5 (C:=C) e
theorem akO (ok:D.Ok) (e:ju a b v C=some q) (B:bz D φ J C s) (r:aZ φ s.heap dZ a) (bV:aZ φ s.heap eA b) (gG:aZ φ s.heap aO v):
  wpAny (cX D) D.A (setItem dZ eA aO) (lN D φ C s λcz gf=>cz=J/\gf=q.2) dR s:=akP ok (GQ a b) e B r bV gG
end
section
variable {D:dU} {φ:dG} {J:aL} {C aT:bL} {s:Shared} {b9:Type}
theorem aiK {a b:Int} (h:mV a b=true):IntMulOk a b:=by
 unfold mV at h
 simp only[EH,gI,lH]at h
 exact Jz.ok h
set_option tactic.hygienic true in
theorem alx {h:Heap} k (c:Bool):fG φ h (List.replicate k [Value.bool c]).flatten.toArray.toList (List.replicate k (I.bool c)):=by
 rw[show((List.replicate k [Value.bool c]).flatten.toArray.toList)=List.replicate k (Value.bool c) by simp]
 exact .of_get (by simp) λi x y bk bK=>by
  rw[ES]at bk bK
  split at bk
  .rename_i z;rw[bT z]at bK;nomatch bk;nomatch bK;exact .bool _
  .nomatch bk
theorem ZZ {a dB:Addr} {items C8:Array Value} {n HA:Nat} {xs jG:List I} (ok:D.Ok) (B:bz D φ J C s) (dJ:IsL s.heap a items n) (u5:IsL s.heap dB C8 HA) (rs:fG φ s.heap items.toList xs) (NC:fG φ s.heap C8.toList jG)
  (aR:items.size=xs.length) (qm:C8.size=jG.length) (hz:xs.length+jG.length<=100000):wpAny (cX D) D.A (binaryOp .Add (.ref a) (.ref dB)) (d6 aZ D J φ C s (Is (.ref (C.k::D.p)) ⟨C.h.set (C.k::D.p) (.list (xs++jG)),C.k+1⟩)) dR s:=
 concat_meets ⟨_,dJ,rfl⟩ ⟨_,u5,rfl⟩ noFill_list_add seq_list_add PySem.F.slot_list_add PySem.F.entry_list_add (PySem.F.args_list_add_2 _ _) (list_addW a dB items C8 n HA none none #[] #[] (by rw[qI];omega))
  ⟨dJ,u5,xm ok B (nH _) (λb o e=>mF _ e) (nc _ rfl) (by rw[Array.toList_append];exact rs.append NC) s.toks⟩
theorem Z0 {r:ay} {aO:Value} {n:Int} {t:Tok} {c:Bool} (ok:D.Ok) (B:bz D φ J C s) (bw:C.h r=some (.list [.bool c])) (x:aZ φ s.heap aO (.ref r)) (cj:0<=n) (az:n<=1000):
  wpAny (cX D) D.A (binaryOp .Mult aO (.int n t)) (d6 aZ D J φ C s (Is (.ref (C.k::D.p)) ⟨C.h.set (C.k::D.p) (.list (List.replicate n.toNat (.bool c))),C.k+1⟩)) dR s:=by
 refine iu λaH ez=>?_
 obtain⟨a,items,m,rfl,aY,dJ,d8,rs,aR⟩:=Hf B bw x
 refine ez ?_
 simp at aR
 refine wpAny_binaryOp_repeat_ref (by decide) ⟨_,dJ,rfl⟩ (λbW=>typeIs_int bW _ t) noFill_list_mul PySem.F.fills_int_mul PySem.F.slot_int_rmul repeat_list PySem.F.slot_int_index.lookup
  (call_meets PySem.F.slot_int_rmul (typeIs_int s _ t) PySem.F.entry_int_rmul (PySem.F.args_int_rmul_2 _ _) (lm_int_rmul_list_any _ t a items m none #[])
   ⟨dJ,rfl,⟨_,dJ,rfl⟩,call_meets PySem.F.slot_list_mul ⟨_,dJ,rfl⟩ PySem.F.entry_list_mul (PySem.F.args_list_mul_2 _ _)
    (lm_list_mul_any a items m none #[] _ t (by simp[Builtin.List.listFitsIndex];omega) (by rw[aR];omega) (by rw[aR];simp[Builtin.List.listTooLong,sizeLine];omega))
    ⟨dJ,?_⟩⟩)
 refine xm ok B (nH _) (λb o e=>mF _ e) (nc _ rfl) ?_ s.toks
 rw[listMul_foldl_if]
 generalize items.toList=l at rs
 rcases rs with _|⟨gq,_|_⟩
 rw[gq.bool_inv]
 exact alx _ _
theorem ZY {a b:List Nat} {dZ eA:Value} (ok:D.Ok) (B:bz D φ J C s) (r:aZ φ s.heap dZ (.bytes a)) (bV:aZ φ s.heap eA (.bytes b)) (hz:a.length+b.length<=100000):wpAny (cX D) D.A (binaryOp .Add dZ eA) (d6 aZ D J φ C s (Is (.bytes (a++b)) C)) dR s:=by
 obtain⟨b,t,rfl,rfl⟩:=r.wu
 obtain⟨c,f9,rfl,rfl⟩:=bV.wu
 refine KBy.add_bytes (by simp at hz;omega) λf9 k=>?_
 have:List.map UInt8.toNat b.toList++List.map UInt8.toNat c.toList=(b++c).toList.map UInt8.toNat:=by simp
 rw[this];exact rj B (.bytes _ _)
theorem akB {eO:Operator} {a b:I} {dZ eA:Value} {q:I×bL} (ok:D.Ok) (w:qK eO a b) (e:P0 D.p w C=some q) (B:bz D φ J C s) (r:aZ φ s.heap dZ a) (bV:aZ φ s.heap eA b):
  wpAny (cX D) D.A (binaryOp eO dZ eA) (d6 aZ D J φ C s (Is q.1 q.2)) dR s:=by
 induction w
 .exact d7 e (aj3 ⟨rfl,rfl⟩ φ s dZ eA B r bV)
 .exact d7 e (aj7 ⟨rfl,rfl⟩ φ s dZ eA B r bV)
 .exact gE e λhz e=>d7 e (r.j9 λt=>bV.j9 λf9=>P.mul_int (rj B (.int _ _)) (aiK hz))
 .refine gE e λhz e=>d7 e ?_
  simp only[gI,lH]at hz
  exact aj4 hz.1 hz.2 ⟨rfl,rfl⟩ φ s dZ eA B r bV
 .exact l_ e λhz e=>d7 e (aj5 hz ⟨rfl,rfl⟩ φ s dZ eA B r bV)
 .refine gE e λhz e=>d7 e ?_
  simp only[gI,lH]at hz
  exact aj6 hz.1 hz.2 ⟨rfl,rfl⟩ φ s dZ eA B r bV
 .exact l_ e λhz e=>d7 e (ZY ok B r bV hz)
 .exact o7 e λxs bw e=>o7 e λjG yI e=>l_ e λhz e=>d7 e (n0 B bw r λa items n aY dJ d8 rs aR=>n0 B yI bV λdB C8 HA apr u5 apq NC qm=>ZZ ok B dJ u5 rs NC aR qm hz)
 .refine o7 e λxs bw e=>?_
  unfold VB at e
  split at e
  .exact gE e λhz e=>d7 e (bV.j9 λt=>by
    simp only[gI,lH]at hz
    exact Z0 ok B bw r hz.1 hz.2)
  .exact n5 e
 .exact n5 (C:=C) e
theorem akA {eO:Operator} {a b:I} {dZ eA:Value} {q:I×bL} (ok:D.Ok) (e:fk D.p eO a b C=some q) (B:bz D φ J C s) (r:aZ φ s.heap dZ a) (bV:aZ φ s.heap eA b):
  wpAny (cX D) D.A (binaryOp eO dZ eA) (d6 aZ D J φ C s (Is q.1 q.2)) dR s:=akB ok (P5 eO a b) e B r bV
noncomputable def Vd {b9:Type}:Option b9->Option (List b9)->Option (List b9)
 |some d,some fZ=>some (d::fZ)
 |_,_=>none
theorem akS {b9:Type} {a:Option b9} {b:Option (List b9)} {fZ:List b9} {P:List b9->Prop} (e:Vd a b=some fZ) (k:∀d ao,a=some d->b=some ao->P (d::ao)):P fZ:=by
 induction a with
 |none=>exact fK e
 |some d=>induction b with
  |none=>exact fK e
  |some ao=>exact d7 e (k d ao rfl rfl)
noncomputable def TG {b9:Type} (f:List I->Option b9):Option cw->Option b9
 |some (.list aa)=>f aa
 |_=>none
theorem ag4 {b9:Type} {f:List I->Option b9} {o:Option cw} {a:b9} {P:Prop} (e:TG f o=some a) (k:∀aa,o=some (.list aa)->f aa=some a->P):P:=by
 induction o with
 |none=>exact fK e
 |some o=>induction o with
  |list aa=>exact k aa rfl e
  |_=>exact fK e
@[elab_as_elim] theorem Q6 {f:I->Option PyData} {v:I} {aa:List I} {fZ:List PyData} {P:List PyData->Prop} (e:fH.kX f (v::aa)=some fZ) (k:∀d ao,f v=some d->fH.kX f aa=some ao->P (d::ao)):P fZ:=akS ((show Vd (f v) (fH.kX f aa)=fH.kX f (v::aa) by kernel_rfl).trans e) k
@[elab_as_elim] theorem F7 {n:Nat} {h:bl} {v:I} {d:PyData} {P:I->PyData->Prop} (e:fH n h v=some d) (LW:∀i,P (.int i) (.int i)) (C':∀b,P (.bool b) (.bool b)) (LZ:∀m aa fZ,n=m+1->fH.kX (fH m h) aa=some fZ->P (.tup aa) (.tuple fZ))
  (Dc:∀m q aa fZ,n=m+1->h q=some (.list aa)->fH.kX (fH m h) aa=some fZ->P (.ref q) (.list fZ)):P v d:=by
 cases v with
 |int i=>rcases n with _|_<;>exact d7 e (LW i)
 |bool b=>rcases n with _|_<;>exact d7 e (C' b)
 |tup aa=>induction n with
  |zero=>exact fK e
  |succ m=>exact Dq e λfZ bk bK=>bK▸LZ m aa fZ rfl bk
 |ref q=>induction n with
  |zero=>exact fK e
  |succ m=>
   exact ag4 ((show TG (λaa=>(fH.kX (fH m h) aa).map .list) (h q)=fH (m+1) h (.ref q) by kernel_rfl).trans e) λaa Z e=>Dq e λfZ bk bK=>bK▸Dc m q aa fZ rfl Z bk
 |_=>rcases n with _|_<;>exact fK e
theorem Q7 {h:Heap} {f:I->Option PyData} (bD:∀{aO v d},aZ φ h aO v->f v=some d->∃cS,Reads h aO d cS) {aa:List I} {eG:List Value} (A:fG φ h eG aa):∀{fZ:List PyData},fH.kX f aa=some fZ->∃cS,ReadsAll h eG fZ cS:=by
 induction A with
 |nil=>intro fZ e;exact d7 e ⟨_,.nil⟩
 |cons a _ ih=>intro fZ e;exact Q6 e λd ao bk bK=>(bD a bk).elim λcS x=>(ih bK).elim λeW y=>⟨_,.cons x y⟩
theorem Q3 (B:bz D φ J C s) n:∀{aO:Value} {v:I} {d:PyData},aZ φ s.heap aO v->fH n C.h v=some d->∃cS,Reads s.heap aO d cS:=by
 induction n with
 |zero=>exactλ{aO v d} r e=>F7 e (λi r=>r.j9 λt=>⟨_,.int _ _⟩) (λb r=>r.yi ⟨_,.bool _⟩) (λm aa fZ h=>nomatch h) (λm q aa fZ h=>nomatch h) r
 |succ n ih=>exactλ{aO v d} r e=>F7 e (λi r=>r.j9 λt=>⟨_,.int _ _⟩) (λb r=>r.yi ⟨_,.bool _⟩) (λm aa fZ h bk r=>r.En λa eu k aY rs=>(Q7 ih rs (BU h▸bk)).elim λcS x=>⟨_,reads_tuple_at aY rfl rfl x⟩) (λm q aa fZ h Z bk r=>n0 B Z r λa items k aY dJ d8 rs aR=>(Q7 ih rs (BU h▸bk)).elim λcS x=>⟨_,reads_list_at dJ rfl rfl x⟩) r
theorem Q8 {f:I->Option PyData} {k:Nat} (bD:∀{v d},f v=some d->d.canLay0=true/\d.depth<=k) {aa:List I}:∀{fZ:List PyData},fH.kX f aa=some fZ->PyData.canLayAll0 fZ=true/\PyData.depthAll fZ<=k:=by
 induction aa with
 |nil=>intro fZ e;exact d7 e ⟨rfl,lY _⟩
 |cons v aa ih=>intro fZ e;exact Q6 e λd ao bk bK=>⟨show(d.canLay0&&PyData.canLayAll0 ao)=true by rw[(bD bk).1,(ih bK).1];rfl,Nat.max_le.mpr ⟨(bD bk).2,(ih bK).2⟩⟩
theorem abD {h:bl} n:∀{v:I} {d:PyData},fH n h v=some d->d.canLay0=true/\d.depth<=n:=by
 induction n with
 |zero=>exactλ{v d} e=>F7 e (λi=>⟨rfl,lY _⟩) (λb=>⟨rfl,lY _⟩) (λm aa fZ h=>nomatch h) (λm q aa fZ h=>nomatch h)
 |succ n ih=>exactλ{v d} e=>F7 e (λi=>⟨rfl,lY _⟩) (λb=>⟨rfl,lY _⟩) (λm aa fZ h bk=>have z:=Q8 ih (BU h▸bk);⟨z.1,z4 z.2⟩) (λm q aa fZ h U bk=>have z:=Q8 ih (BU h▸bk);⟨z.1,z4 z.2⟩)
theorem Q4 {h:bl} {v:I} {d:PyData} (e:fH 3 h v=some d):PySem.SeqAt.shaped d=true:=by
 obtain⟨a,b⟩:=abD 3 e
 unfold PySem.SeqAt.shaped
 rw[a,Jk]
 exact iU (by omega)
theorem Tc {K:Type} [DecidableEq K] {h:Heap} {bO:List (K×Value)} {l:List (K×I)} (A:dS (i_ φ h) bO l) (k:K):(valueAt bO k).isSome=(l.lookup k).isSome:=by
 have z:=S_ A k
 cases h:l.lookup k with
 |none=>rw[h]at z;exact cJ Option.isSome z
 |some v=>rw[h]at z;exact z.elim λaO y=>cJ Option.isSome y.1
abbrev B5:dG->Heap->Value->Bool->Prop:=λU U aO c=>aO=.bool c
theorem qg {c:Bool} {t:Nat} (B:bz D φ J C s):d6 B5 D J φ C s (Is c C) (.bool c) {s with toks:=t}:=⟨_,φ,C,.toks t,rfl,B.toks t,rfl,rfl⟩
set_option tactic.hygienic true in
theorem Qu {a b:I} {dZ eA:Value} {c:Bool} {aG:bL} {P:Bool->bL->Prop} (e:tD a b C=some (c,aG)) (B:bz D φ J C s) (r:aZ φ s.heap dZ a) (bV:aZ φ s.heap eA b)
  (k:∀d sH cS eW,Reads s.heap dZ d cS->Reads s.heap eA sH eW->PySem.SeqAt.shaped d=true->PySem.SeqAt.shaped sH=true->P (PyData.eqv d sH) C):P c aG:=by
 unfold tD at e
 split at e
 .rename_i d sH az aE
  nomatch e
  exact(Q3 B 3 r az).elim λcS x=>(Q3 B 3 bV aE).elim λeW y=>k d sH cS eW x y (Q4 az) (Q4 aE)
 .nomatch e
set_option tactic.hygienic true in
theorem akF {eO:CmpOp} {a b:I} {dZ eA:Value} {q:Bool×bL} (ok:D.Ok) (w:mJ eO a b) (e:QC w C=some q) (B:bz D φ J C s) (r:aZ φ s.heap dZ a) (bV:aZ φ s.heap eA b):
  wpAny (cX D) D.A (compareOp eO dZ eA) (d6 B5 D J φ C s (Is q.1 q.2)) dR s:=by
 have dj:=ok.room.1
 have j8:D.A.units+64<cLine:=by have:=ok.room.2.2;omega
 induction w
 .exact d7 e (ajI ⟨rfl,rfl⟩ φ s dZ eA B r bV)
 .exact d7 e (ajN ⟨rfl,rfl⟩ φ s dZ eA B r bV)
 .exact d7 e (ajM ⟨rfl,rfl⟩ φ s dZ eA B r bV)
 .exact d7 e (ajL ⟨rfl,rfl⟩ φ s dZ eA B r bV)
 .exact d7 e (ajK ⟨rfl,rfl⟩ φ s dZ eA B r bV)
 .exact d7 e (ajJ ⟨rfl,rfl⟩ φ s dZ eA B r bV)
 .exact d7 e (r.yi (bV.yi (PyProof.Rows.eq_bool (qg B))))
 .exact d7 e (r.yi (bV.yi (PyProof.Rows.ne_bool (qg B))))
 .rename_i v
  refine bV.fK ?_
  cases v with
  |none=>exact d7 e (r.fK (is_none (qg B)))
  |int i=>exact d7 e (r.j9 λt=>is_none (qg B))
  |ref i=>exact d7 e (r.Ni λt U=>is_none (qg B))
  |_=>exact n5 (C:=C) e
 .rename_i v
  refine bV.fK ?_
  cases v with
  |none=>exact d7 e (r.fK (isNot_none (qg B)))
  |int i=>exact d7 e (r.j9 λt=>isNot_none (qg B))
  |ref i=>exact d7 e (r.Ni λt U=>isNot_none (qg B))
  |_=>exact n5 (C:=C) e
 .exact Qu (P:=λc aG=>wpAny (cX D) D.A (compareOp .Eq dZ eA) (d6 B5 D J φ C s (Is c aG)) dR s) e B r bV λd sH cS eW x y z nJ=>eq_dataH x y z nJ j8 (qg B)
 .exact eS e λc aG bk e=>d7 e (Qu (P:=λc aG=>wpAny (cX D) D.A (compareOp .NotEq dZ eA) (d6 B5 D J φ C s (Is (!c) aG)) dR s) bk B r bV λd sH cS eW x y z nJ=>ne_dataH x y z nJ j8 (qg B))
 .exact pZ e λns bG e=>d7 e (r.j9 λt=>bV.En λa eu n aY rs=>in_tuple_ints ⟨_,aY,rfl,n,rfl⟩ (C6 rs bG) (qg B))
 .exact pZ e λns bG e=>d7 e (r.j9 λt=>bV.En λa eu n aY rs=>notin_tuple_ints ⟨_,aY,rfl,n,rfl⟩ (C6 rs bG) (qg B))
 .exact GL e λl bw e=>d7 e (r.j9 λt=>yO B bw bV λa bO aY hd G=>wpAny_in_of (intKind_is c3 D.w _ _) (HG ok B aY) hd.mapOf (by rw[Tc G];exact qg B))
 .exact NJ e λl bw e=>d7 e (r.Ir λt=>NK B bw bV λa bO aY hd G=>wpAny_notIn_of (strKind_is c3 D.w _ _) (HG ok B aY) hd.mapOf (by rw[Tc G];exact qg B))
 .exact n5 (C:=C) e
theorem Va {eO:CmpOp} {a b:I} {dZ eA:Value} {q:Bool×bL} (ok:D.Ok) (e:dX eO a b C=some q) (B:bz D φ J C s) (r:aZ φ s.heap dZ a) (bV:aZ φ s.heap eA b):
  wpAny (cX D) D.A (compareOp eO dZ eA) (d6 B5 D J φ C s (Is q.1 q.2)) dR s:=akF ok (QB eO a b) e B r bV
end
section
theorem Wh (l u B) (p) (o i):∃ops,subscripted (.Slice l u B p) false o i=operate ops (getItem o i):=by
 induction B with
 |none=>exact⟨[i,o],rfl⟩
 |some _=>exact⟨[o,i],rfl⟩
theorem C5 (r:aZ φ h aO (.int i)):IsPart aO (some i):=by obtain⟨t,rfl⟩:=r.int_inv;exact .int _ _
theorem A4 (r:aZ φ h aO .none):IsPart aO none:=by rw[r.none_inv];exact .none
theorem abX (b:Array UInt8) (i j) (az:i<=j) (aE:j<=b.size):((b.toList.map UInt8.toNat).take j).drop i=(KBy.picked b (some i) (some j)).toList.map UInt8.toNat:=by
 rw[KBc.picked_eq]
 simp only[Option.elim]
 rw[clipAt_nat,clipAt_nat,Nat.min_eq_left aE,Nat.min_eq_left (d5 az aE),List.drop_take,<-List.map_drop,<-List.map_take]
theorem ai6 (h:Heap) (o):h.get? (h.push o).objs.size=none:=by
 cases q:h.get? (h.push o).objs.size with
 |none=>rfl
 |some o=>exact absurd (tF q) (by rw[BP];exact Nat.not_lt.mpr (jV _))
theorem NM {a:Addr} (ok:D.Ok) (B:bz D φ J C s) (d8:s.heap.IsList a items) (gj:IsPart dZ x) (qw:IsPart eA y) (pc:IsPart xu z)
  (hz:z≠some 0) (rs:fG φ s.heap (slicePick items x y z).toList aa) (aR:items.size<=sizeLine):
  wpAny (cX D) D.A (subscriptTail value (.Slice l u D_ pos) (.ref a) (.ref s.heap.objs.size)) (d6 aZ D J φ C s (Is (.ref (C.k::D.p)) ⟨C.h.set (C.k::D.p) (.list aa),C.k+1⟩)) dR {s with heap:=s.heap.push {cls:=.type "slice",data:=.fields #[dZ,eA,xu]}}:=by
 obtain⟨ops,bw⟩:=Wh l u D_ pos (.ref a) (.ref s.heap.objs.size)
 exact tail_any (d8.push _).typeIs slot_list_getitem.lookup (wpAny_getItem_list_slice (d8.push _) (Heap.IsSliceOf.new ..) gj qw pc hz
  (xm ok B (ai6 _ _) (λb o e=>mF _ (mF _ e)) (nc _ rfl) rs s.toks) aR) bw
theorem ama {i j:Nat} (ok:D.Ok) (B:bz D φ J C s) (gj:IsPart dZ (some i)) (qw:IsPart eA (some j)) (aE:i<=j) (b8:j<=eW.size) (cH:eW.size<=sizeLine):
  wpAny (cX D) D.A (subscriptTail value (.Slice l u D_ pos) (.bytes eW t) (.ref s.heap.objs.size)) (d6 aZ D J φ C s (Is (.bytes (((eW.toList.map UInt8.toNat).take j).drop i)) C)) dR {s with heap:=s.heap.push {cls:=.type "slice",data:=.fields #[dZ,eA,.none]}}:=by
 obtain⟨ops,bw⟩:=Wh l u D_ pos (.bytes eW t) (.ref s.heap.objs.size)
 rw[abX eW i j aE b8]
 exact tail_any (typeIs_bytes _ _ _) FB.slot_bytes_getitem.lookup (getItem_meets (typeIs_bytes _ _ _) (by decide) FB.slot_bytes_getitem FB.entry_bytes_getitem (FB.args_bytes_getitem_2 _ _) (KBc.meets_slice2 eW t _ gj qw)
  ⟨Heap.IsSliceOf.new _ _ _ _,d5 (KBc.size_picked_le eW _ _) cH,λf9 iT=>uf ok B (λb o e=>mF _ e) (.bytes _ _)⟩) bw
set_option tactic.hygienic true in
theorem akR {q:I×bL} (ok:D.Ok) (w:v7 v a b c) (e:V7 D.p w C=some q) (B:bz D φ J C s)
  (r:aZ φ s.heap aO v) (gq:aZ φ s.heap dZ a) (gW:aZ φ s.heap eA b) (ug:aZ φ s.heap xu c):
  wpAny (cX D) D.A (subscriptTail value (.Slice l u D_ pos) aO (.ref s.heap.objs.size)) (d6 aZ D J φ C s (Is q.1 q.2)) dR {s with heap:=s.heap.push {cls:=.type "slice",data:=.fields #[dZ,eA,xu]}}:=by
 induction w
 .rename_i l a b
  refine gE e λhz e=>d7 e ?_
  simp only[gI,lH]at hz
  obtain⟨⟨⟨az,aE⟩,b8⟩,cH⟩:=hz
  obtain⟨eW,t,rfl,rfl⟩:=r.wu
  simp only[fD,Array.length_toList]at b8 cH
  obtain⟨i,rfl⟩:=Jm az
  obtain⟨j,rfl⟩:=Jm (zU az aE)
  rw[ug.none_inv]
  exact ama ok B (C5 gq) (C5 gW) (Int.ofNat_le.mp aE) (Int.ofNat_le.mp b8) (vF cH rfl)
 .refine o7 e λxs bw e=>gE e λhz e=>d7 e (n0 B bw r λa items n aY dJ d8 rs aR=>?_)
  simp only[gI,lH]at hz
  obtain⟨⟨az,aE⟩,b8⟩:=hz
  obtain⟨j,rfl⟩:=Jm az
  exact NM ok B d8 (A4 gq) (C5 gW) (A4 ug) (by simp) (by rw[slicePick_upto items j (aR▸Int.ofNat_le.mp aE)];exact rs.take _) (vF b8 aR)
 .refine o7 e λxs bw e=>gE e λhz e=>d7 e (n0 B bw r λa items n aY dJ d8 rs aR=>?_)
  simp only[gI,lH]at hz
  obtain⟨⟨az,aE⟩,b8⟩:=hz
  obtain⟨j,rfl⟩:=Jm az
  exact NM ok B d8 (C5 gq) (A4 gW) (A4 ug) (by simp) (by rw[slicePick_from items j (aR▸Int.ofNat_le.mp aE)];exact rs.drop _) (vF b8 aR)
 .refine o7 e λxs bw e=>gE e λhz e=>d7 e (n0 B bw r λa items n aY dJ d8 rs aR=>?_)
  simp only[gI,lH]at hz
  exact NM ok B d8 (A4 gq) (A4 gW) (hz.1▸C5 ug) (by simp) (by rw[krv_pick];exact rs.rev) (vF hz.2 aR)
 .exact n5 (C:=C) e
theorem akQ (ok:D.Ok) (e:slice D.p v a b c C=some q) (B:bz D φ J C s)
  (r:aZ φ s.heap aO v) (gq:aZ φ s.heap dZ a) (gW:aZ φ s.heap eA b) (ug:aZ φ s.heap xu c):
  wpAny (cX D) D.A (subscriptTail value (.Slice l u D_ pos) aO (.ref s.heap.objs.size)) (d6 aZ D J φ C s (Is q.1 q.2)) dR {s with heap:=s.heap.push {cls:=.type "slice",data:=.fields #[dZ,eA,xu]}}:=akR ok (V6 v a b c) e B r gq gW ug
end
section
set_option tactic.hygienic true in

theorem bz.name (h:bz D φ J C s) (fN:∀r,φ r≠some a) (bD:a∉D.fr) (hd:D.jy.get? a=none)
  (bw:s.heap.get? a=some o) (aj:f7 o=false) (aP:nk D.w (φ.set (C.k::D.p) a) s.heap a gh):bz D (φ.set (C.k::D.p) a) J ⟨C.h.set (C.k::D.p) gh,C.k+1⟩ s:=by
 have aQ:=h.fresh _ (d_.self D.p C.k)
 have iZ:∀bV dB,φ bV=some dB->(φ.set (C.k::D.p) a) bV=some dB:=λbV dB e=>by
  unfold dG.set;split
  .rename_i q;rw[q,aQ]at e;nomatch e
  .exact e
 refine⟨h.keep,?_,λx a e=>?_,h.ny,λbV dB e=>?_,λgq gW b bk bK=>?_,?_,λbV e=>?_,λbV gM e=>?_,h.gens,h.drawn,h.os⟩
 .obtain⟨m,n,f⟩:=h.loc
  exact⟨m,n,λx v a b c=>let⟨aO,p,q⟩:=f x v a b c;⟨aO,p,q.mono iZ λb o e U=>e⟩⟩
 .obtain⟨iD,n,f⟩:=h.l9 x a e
  exact⟨iD,n,λv a b c=>let⟨aO,p,q⟩:=f v a b c;⟨aO,p,q.mono iZ λb o e U=>e⟩⟩
 .unfold dG.set at e;split at e
  .nomatch e;exact⟨bD,hd,o,bw,aj⟩
  .exact h.own bV dB e
 .unfold dG.set at bk bK
  split at bk<;>split at bK
  .rename_i p q;exact p.trans q.symm
  .nomatch bk;exact absurd bK (fN _)
  .nomatch bK;exact absurd bk (fN _)
  .exact h.inj _ _ _ bk bK
 .obtain⟨cS,f⟩:=h.oV
  refine⟨a::cS,λbV dB e=>?_⟩
  unfold dG.set at e;split at e
  .nomatch e;exact jH
  .exact i9 _ (f _ _ e)
 .have ff:=e
  unfold dG.set;split
  .rename_i q;exact(d_.UL (q▸ff)).elim
  .exact h.fresh bV (ff.mono (jV _))
 .have ff:(C.h.set (C.k::D.p) gh) bV=some gM:=e
  unfold bl.set at ff;split at ff
  .rename_i q
   nomatch ff
   exact⟨a,by unfold dG.set;rw[bT q],aP⟩
  .obtain⟨dB,p,q⟩:=h.obs bV gM ff
   exact⟨dB,iZ _ _ p,q.mono iZ (λb o e U=>e) λo e=>e⟩
set_option tactic.hygienic true in

theorem U' (ok:D.Ok) (B:bz D φ J C s) (l:eV D φ C s b3 aG br) (bQ:bz D b3 J aG br) (aY:s.heap.get? a=none) (fN:∀r,b3 r≠some a) (bD:a∉D.fr) (hd:D.jy.get? a=none) (aR:br.heap.get? a=some ajx) (rT:f7 ajx=false)
  (k:Heap.SameBut a br.heap g) (bw:g.get? a=some o) (aj:f7 o=false) (aP:(∀b o,br.heap.get? b=some o->f7 o=true->g.get? b=some o)->nk D.w b3 g a gh):
  d6 aZ D J φ C s (Is (.ref (aG.k::D.p)) ⟨aG.h.set (aG.k::D.p) gh,aG.k+1⟩) (.ref a) {br with heap:=g,toks:=t}:=by
 have im:∀b o,br.heap.get? b=some o->f7 o=true->g.get? b=some o:=λb o e i=>k.extBut b o (λq=>by rw[q,aR]at e;nomatch e;rw[rT]at i;nomatch i) e
 have gK:∀b o,br.heap.get? b=some o->((∃gM,D.jy.get? b=some gM)\/b∈D.fr\/(∃r,b3 r=some b)\/f7 o=true)->g.get? b=some o:=λb o e z=>by
  by_cases q:b=a
  .subst q
   rcases z with⟨_,z⟩|z|⟨r,z⟩|z
   .rw[hd]at z;nomatch z
   .exact absurd z bD
   .exact absurd z (fN r)
   .exact im _ _ e z
  .exact k.extBut b o q e
 have fh:=bQ.Gz gK t ok
 have iZ:∀bV dB,b3 bV=some dB->(b3.set (aG.k::D.p) a) bV=some dB:=λbV dB e=>by
  unfold dG.set;split
  .rename_i q;rw[q,bQ.fresh _ (d_.self D.p aG.k)]at e;nomatch e
  .exact e
 have iS:=fh.name fN bD hd bw aj ((aP im).mono iZ (λU U e U=>e) (λU e=>e))
 refine⟨_,_,_,⟨λr b e=>iZ _ _ (l.map r b e),λb o e n q=>?_,λr b e=>?_,Nat.le_succ_of_le l.au⟩,.ref (by unfold dG.set;rw[bT rfl]),iS,rfl,rfl⟩
 .exact k.extBut b o (λz=>by rw[z,aY]at e;nomatch e) (l.keep b o e n q)
 .unfold dG.set at e;split at e
  .rename_i q;nomatch e;exact .inr ⟨aY,q▸(d_.self _ _).mono l.au⟩
  .exact l.new r b e
end
section
noncomputable def qM (φ:dG) (h:Heap) (aS:Addr) (i:Nat):I->Prop
 | .eo a b=>IsRangeIter h aS (a+(i:Int)) (((b -a).toNat:Int) -(i:Int)) 1
 | .tup xs=>∃T eu n,h.get? T=some (xF eu n)/\fG φ h eu.toList xs/\h.IsTupleIter aS T i
 | .ref r=>∃l,φ r=some l/\h.IsListIter aS l i
 |_=>False
structure om (D:dU) (φ:dG) (h:Heap) (aS:Addr):Prop where
 base:D.jy.get? aS=none
 fr:aS∉D.fr
 un:∀r,φ r≠some aS
 at_:∃o,h.get? aS=some o/\f7 o=false
theorem om.le {aS:Addr} (l:om D φ s.heap aS) (le:eV D φ C s b3 aG br):om D b3 br.heap aS:=by
 obtain⟨o,e,i⟩:=l.at_
 exact⟨l.base,l.fr,λr q=>(by
  rcases le.new r aS q with z|z
  .exact l.un r z
  .rw[e]at z;cases z.1),o,le.keep aS o e l.un l.fr,i⟩
theorem qM.le {aS:Addr} (B:bz D φ J C s) (l:om D φ s.heap aS) (le:eV D φ C s b3 aG br) (x:qM φ s.heap aS i it):qM b3 br.heap aS i it:=by
 obtain⟨o,e,_⟩:=l.at_
 have k:∀o,s.heap.get? aS=some o->br.heap.get? aS=some o:=λo e=>le.keep aS o e l.un l.fr
 nomatch it<;>try exact x
 .obtain⟨a,az,aE⟩:=x
  exact⟨a,le.map _ _ az,aE.at k⟩
 .obtain⟨T,eu,n,az,aE,b8⟩:=x
  exact⟨T,eu,n,B.Sz le _ _ az rfl,B.Es le aE,b8.at k⟩
 .exact k _ x
set_option tactic.hygienic true in
theorem SK (ok:D.Ok) (e:jP it C=some q) (B:bz D φ J C s) (r:aZ φ s.heap aO it)
  (h:∀g,(∀b o,s.heap.get? b=some o->g.get? b=some o)->g.objs.size=s.heap.objs.size+1->qM φ g s.heap.objs.size 0 it->(∃o,g.get? s.heap.objs.size=some o/\f7 o=false)->Q (.ref s.heap.objs.size) {s with heap:=g}):
  wpAny (cX D) D.A (pyIter aO) Q dR s:=by
 have k:∀gM b o,s.heap.get? b=some o->(s.heap.push gM).get? b=some o:=λgM b o e=>mF _ e
 unfold jP at e
 split at e
 .obtain⟨hz,e⟩:=LM e
  simp only[gI,LC]at hz
  obtain⟨dB,t,u,v,rfl,aQ⟩:=r.VM
  rename_i a b _
  have bG:Builtin.Range.rangeSize a b 1=((b -a).toNat:Nat):=by rw[rangeSize_one];split<;>omega
  have C3:Builtin.Range.small a b 1=true:=small_one (by omega) (by omega) (by omega) (by omega)
  refine wpAny_pyIter_range aQ C3 (h _ (k _) (BP ..) ?_ ⟨_,nc _ rfl,rfl⟩)
  show IsRangeIter _ _ _ _ _
  rw[bG]
  simpa using nc _ rfl
 .obtain⟨a,eu,n,rfl,aY,rs⟩:=r.Em
  exact wpAny_pyIter_tuple ⟨_,aY,rfl,n,rfl⟩ (h _ (k _) (BP ..) ⟨a,eu,n,k _ _ _ aY,rs.mono λU U y=>y.mono (λU U e=>e) λb o e U=>k _ b o e,_,nc _ rfl,rfl,rfl⟩ ⟨_,nc _ rfl,rfl⟩)
 .obtain⟨o,bw,e⟩:=UX e
  split at e
  .obtain⟨a,items,n,rfl,aY,dJ,d8,rs,aR⟩:=Hf B bw r
   exact wpAny_pyIter_list d8 (h _ (k _) (BP ..) ⟨a,aY,_,nc _ rfl,rfl,rfl⟩ ⟨_,nc _ rfl,rfl⟩)
  .nomatch e
 .nomatch e
theorem om.turn {aS:Addr} (ok:D.Ok) (B:bz D φ J C s) (l:om D φ s.heap aS) (k:∀b o,b≠aS->s.heap.get? b=some o->g.get? b=some o) (t):bz D φ J C {s with heap:=g,toks:=t}:=
 B.Gz (λb o e z=>k b o (λq=>by
  subst q
  obtain⟨gM,ff,i⟩:=l.at_
  rcases z with⟨_,z⟩|z|⟨r,z⟩|z
  .rw[l.base]at z;nomatch z
  .exact l.fr z
  .exact l.un r z
  .rw[e]at ff;nomatch ff;rw[i]at z;nomatch z) e) t ok
set_option tactic.hygienic true in
theorem afp {aS:Addr} {q:Option I×bL} (ok:D.Ok) (e:g8 it i C=some q) (B:bz D φ J C s) (l:om D φ s.heap aS) (x:qM φ s.heap aS i it)
  (aR:∀v aO g t,q=(some v,C)->(∀b o,b≠aS->s.heap.get? b=some o->g.get? b=some o)->aZ φ g aO v->qM φ g aS (i+1) it->om D φ g aS->bz D φ J C {s with heap:=g,toks:=t}->Q (some aO) {s with heap:=g,toks:=t})
  (bG:∀g t,q=(none,C)->(∀b o,b≠aS->s.heap.get? b=some o->g.get? b=some o)->bz D φ J C {s with heap:=g,toks:=t}->Q none {s with heap:=g,toks:=t}):
  wpAny (cX D) D.A (pyNext (.ref aS)) Q dR s:=by
 have dj:=ok.room.1
 have im:∀{g:Heap},(∀b o,b≠aS->s.heap.get? b=some o->g.get? b=some o)->∀b o,s.heap.get? b=some o->f7 o=true->g.get? b=some o:=λk b o e i=>k b o (λz=>by
  subst z;obtain⟨gM,ff,qn⟩:=l.at_;rw[e]at ff;nomatch ff;rw[i]at qn;nomatch qn) e
 have lo:∀{g:Heap},(∃o,g.get? aS=some o/\f7 o=false)->om D φ g aS:=λh=>⟨l.base,l.fr,l.un,h⟩
 unfold g8 at e
 split at e
 .rename_i a b
  have e:=rq e
  have x:IsRangeIter s.heap aS (a+(i:Int)) (((b -a).toNat:Int) -(i:Int)) 1:=x
  by_cases iY:a+(i:Int)<b
  .rw[bT (iU iY)]at e
   refine wpAny_pyNext_range_item x (by omega) λg nW qm=>?_
   have k:=qm.extBut
   refine aR _ _ g _ e (λb o n e=>k b o n e) (.int _ _) ?_ (lo ⟨_,nW,rfl⟩) (l.turn ok B (λb o n e=>k b o n e) _)
   show IsRangeIter _ _ _ _ _
   have bk:a+((i+1:Nat):Int)=a+(i:Int)+1:=by omega
   have bK:((b -a).toNat:Int) -((i+1:Nat):Int)=((b -a).toNat:Int) -(i:Int) -1:=by omega
   rw[bk,bK];exact nW
  .rw[bX (by simpa using iY)]at e
   refine wpAny_pyNext_range_end dj x (by omega) λg bI=>?_
   exact bG g s.toks e (λb o n e=>bI b o n e) (l.turn ok B (λb o n e=>bI b o n e) s.toks)
 .have e:=rq e
  obtain⟨T,eu,n,az,aE,b8⟩:=x
  have bY:s.heap.IsTuple T eu:=⟨_,az,rfl,n,rfl⟩
  rename_i xs _
  cases bE:xs[i]? with
  |some v=>
   rw[bE]at e
   obtain⟨aO,aQ,gG⟩:=aE.get bE
   refine wpAny_pyNext_tuple_item b8 bY (x:=aO) (by rw[<-vP];exact aQ) λg nW qm=>?_
   have k:=qm.extBut
   have j0:∀b o,b≠aS->s.heap.get? b=some o->g.get? b=some o:=λb o n e=>k b o n e
   obtain⟨o,bw,aN,hd⟩:=id nW
   exact aR v aO g s.toks e j0 (gG.mono (λU U e=>e) (im j0)) ⟨T,eu,n,im j0 _ _ az rfl,aE.mono λU U y=>y.mono (λU U e=>e) (im j0),nW⟩ (lo ⟨o,bw,by unfold f7;rw[hd,aN];rfl⟩) (l.turn ok B j0 s.toks)
  |none=>
   rw[bE]at e
   have Lz:eu[i]?=none:=by
    rw[<-vP,Jl,aE.len]
    exact List.getElem?_eq_none_iff.mp bE
   refine wpAny_pyNext_tuple_end dj b8 bY Lz λg bI=>?_
   exact bG g s.toks e (λb o n e=>bI b o n e) (l.turn ok B (λb o n e=>bI b o n e) s.toks)
 .obtain⟨o,bw,e⟩:=UX e
  split at e
  .have e:=rq e
   obtain⟨a,az,b8⟩:=x
   obtain⟨dB,bk,items,n,dJ,rs⟩:=B.obs _ _ bw
   rw[az]at bk;nomatch bk
   have d8:s.heap.IsList a items:=⟨_,dJ,rfl,n,rfl⟩
   rename_i xs _
   cases bE:xs[i]? with
   |some v=>
    rw[bE]at e
    obtain⟨aO,aQ,gG⟩:=rs.get bE
    refine wpAny_pyNext_list_item b8 d8 (x:=aO) (by rw[<-vP];exact aQ) λg nW qm=>?_
    have k:=qm.extBut
    have j0:∀b o,b≠aS->s.heap.get? b=some o->g.get? b=some o:=λb o n e=>k b o n e
    obtain⟨o,bw,aN,hd⟩:=id nW
    exact aR v aO g s.toks e j0 (gG.mono (λU U e=>e) (im j0)) ⟨a,az,nW⟩ (lo ⟨o,bw,by unfold f7;rw[hd,aN];rfl⟩) (l.turn ok B j0 s.toks)
   |none=>
    rw[bE]at e
    have Lz:items[i]?=none:=by
     rw[<-vP,Jl,rs.len]
     exact List.getElem?_eq_none_iff.mp bE
    refine wpAny_pyNext_list_end dj b8 d8 Lz λg bI=>?_
    exact bG g s.toks e (λb o n e=>bI b o n e) (l.turn ok B (λb o n e=>bI b o n e) s.toks)
  .nomatch e
 .nomatch e
end
theorem Kz:∀(names:List (Str×NameKind)) eg,(∀x,(x,NameKind.free)∈names->∃a,env.cells.lookup x=some a)->
  ∃jN,(forIn names eg (λp iw=>(if p.2==.free then(do let a <-cellOf env p.1;pure (ForInStep.yield ((p.1,a)::iw)))else pure (ForInStep.yield iw):Sem (ForInStep (List (Str×Addr))))):Sem (List (Str×Addr)))=pure jN/\
   (∀x a,jN.lookup x=some a->eg.lookup x=some a\/env.cells.lookup x=some a)/\(∀x,((eg.lookup x).isSome=true\/(x,NameKind.free)∈names)->(jN.lookup x).isSome=true)
 |[],eg,_=>⟨eg,by rw[List.forIn_nil],λx a e=>.inl e,λx h=>h.elim id (λh=>by nomatch h)⟩
 |(y,k)::names,eg,bE=>by
  rw[Jh]
  by_cases q:k=.free
  .subst q
   obtain⟨a,aY⟩:=bE y jH
   obtain⟨jN,az,aE,b8⟩:=Kz names ((y,a)::eg) λx h=>bE x (i9 _ h)
   refine⟨jN,?_,λx b e=>?_,λx h=>b8 x ?_⟩
   .have aN:cellOf env y=pure a:=by unfold cellOf;rw[aY]
    simp only[qE,jW,aN,pure_bind]
    exact az
   .rcases aE x b e with z|z
    .rw[List.lookup_cons]at z
     cases q:x==y with
     |true=>rw[q]at z;nomatch z;right;rw[beq_iff_eq.mp q];exact aY
     |false=>rw[q]at z;exact .inl z
    .exact .inr z
   .rcases h with z|z
    .left;rw[List.lookup_cons];cases x==y with|true=>rfl|false=>exact z
    .rcases List.mem_cons.mp z with z|z
     .left;rw[List.lookup_cons];nomatch z;simp
     .exact .inr z
  .obtain⟨jN,az,aE,b8⟩:=Kz names eg λx h=>bE x (i9 _ h)
   refine⟨jN,?_,aE,λx h=>b8 x (h.imp_right λz=>?_)⟩
   .have:(k==NameKind.free)=false:=by simpa using q
    simp only[this,nL,xN,pure_bind]
    exact az
   .rcases List.mem_cons.mp z with z|z
    .nomatch z;exact absurd rfl q
    .exact z
theorem Qz (bE:∀x,(x,NameKind.free)∈eB.names->∃a,env.cells.lookup x=some a):
  ∃jN,closureFor eB env=pure jN/\(∀x a,jN.lookup x=some a->env.cells.lookup x=some a)/\(∀x,(x,NameKind.free)∈eB.names->∃a,jN.lookup x=some a):=by
 refine iu λaH ez=>?_
 obtain⟨jN,az,aE,b8⟩:=Kz eB.names [] bE
 refine ez ?_
 refine⟨jN,?_,λx a e=>(aE x a e).elim (λz=>by nomatch z) id,λx h=>Option.isSome_iff_exists.mp (b8 x (.inr h))⟩
 unfold closureFor
 rw[bind_pure]
 refine Eq.trans ?_ az
 rfl
theorem QF (e:(wA sc J).lookup x=some v) (bJ:v≠.undef):J.lookup x=some v/\(x,NameKind.free)∈sc.names:=by
 unfold wA at e
 generalize sc.names=l at e
 induction l with
 |nil=>nomatch e
 |cons p l ih=>
  obtain⟨y,k⟩:=p
  rw[List.filterMap_cons]at e
  induction k with
  |«local»=>
   simp only[List.lookup_cons]at e
   split at e
   .nomatch e;exact absurd rfl bJ
   .exact(ih e).imp_right (i9 _)
  |free=>
   dsimp only at e
   cases h:J.lookup y with
   |none=>rw[h]at e;exact(ih e).imp_right (i9 _)
   |some u=>
    rw[h]at e
    simp only[Option.map_some,List.lookup_cons]at e
    by_cases q:x=y
    .subst q
     simp only[qE,ED]at e
     subst e
     exact⟨h,jH⟩
    .have:(x==y)=false:=by simpa using q
     rw[this]at e
     exact(ih e).imp_right (i9 _)
  |cell=>exact(ih e).imp_right (i9 _)
  |globalExplicit=>exact(ih e).imp_right (i9 _)
  |globalImplicit=>exact(ih e).imp_right (i9 _)
theorem KB (h:yq eB sc x=true):(((eB.kind=.function/\(∀y∈eB.names,y.2≠.cell))/\eB.names.lookup x=some .local)/\(∀y∈eB.names,y.2=.local->eB.names.lookup y.1=some .local))/\
  ∀y∈eB.names,y.2=.free->eB.names.lookup y.1=some .free/\(sc.names.lookup y.1=some .cell\/sc.names.lookup y.1=some .free):=by
 unfold yq at h
 simp only[gI,zW,Je,EH,bne_iff_ne]at h
 refine iu λaH ez=>?_
 obtain⟨⟨⟨⟨az,aE⟩,b8⟩,cH⟩,kB⟩:=h
 refine ez ?_
 exact⟨⟨⟨⟨az,aE⟩,b8⟩,λy cM e=>(cH y cM).resolve_left λz=>z e⟩,λy cM e=>(kB y cM).resolve_left λz=>z e⟩
set_option tactic.hygienic true in
theorem VA (h:(kq eB sc).names.lookup x=some k):∃j0,eB.names.lookup x=some j0/\(k=j0\/(k=.cell/\j0=.free)):=by
 unfold kq at h
 dsimp only at h
 generalize eB.names=l at h ⊢
 induction l with
 |nil=>nomatch h
 |cons p l ih=>
  obtain⟨y,AS⟩:=p
  rw[nN,List.lookup_cons]at h
  rw[List.lookup_cons]
  have e:(if(AS==NameKind.free&&sc.kind==ScopeKind.function&&sc.names.lookup y==some NameKind.cell)=true then(y,NameKind.cell)else(y,AS)).1=y:=by split<;>rfl
  rw[e]at h
  cases q:x==y with
  |true=>
   rw[q]at h
   dsimp only at h ⊢
   refine⟨AS,rfl,?_⟩
   split at h
   .rename_i z
    simp only[gI,zW]at z
    nomatch h;exact .inr ⟨rfl,z.1.1⟩
   .nomatch h;exact .inl rfl
  |false=>rw[q]at h;exact ih h
section
theorem afq {aS:Addr} (x:qM φ s.heap aS 0 it) (h:Q (.ref aS) s):wpAny (cX D) D.A (pyIter (.ref aS)) Q dR s:=by
 nomatch it<;>try exact x.elim
 .obtain⟨l,_,y⟩:=x;exact wpAny_pyIter_listiter y h
 .obtain⟨T,eu,n,_,_,y⟩:=x;exact wpAny_pyIter_tupleiter y h
 .exact wpAny_pyIter_rangeiter x h
inductive Js (D:dU) J (φ:dG) C (s:Shared) v l0 eg (aH:Addr) (bW:Shared):Prop
 |mk (cg:dG) (m:Str->Option Value) (n:bW.heap.Ns aH m) (l:eV D φ C s cg l0 bW) (B:bz D cg J l0 bW) (r:aZ cg bW.heap eg v) (lo:om D cg bW.heap aH) (e:s.heap.get? aH=none)
structure sA (D:dU) (jK:dG) j5 (eX:Shared) (aS:Addr) it i (φ:dG) J C (s:Shared):Prop where
 B:bz D φ J C s
 le:eV D jK j5 eX φ C s
 it:qM φ s.heap aS i it
 lo:om D φ s.heap aS
section
variable {aS b4:Addr} {it v:I} {E:Value->Shared->Prop} {K:aL->bL->Prop}
theorem sA.go (aC:sA D jK j5 eX aS it i φ J C s) (l:eV D φ C s b3 aG br) (bQ:bz D b3 dQ aG br):sA D jK j5 eX aS it i b3 dQ aG br:=⟨bQ,aC.le.trans aC.B l,qM.le aC.B aC.lo l aC.it,aC.lo.le l⟩
theorem sA.Tw (aC:sA D jK j5 eX aS it i φ J C s) (dJ:eX.heap.get? aS=none) (k:∀b o,b≠aS->s.heap.get? b=some o->g.get? b=some o) (t):eV D jK j5 eX φ C {s with heap:=g,toks:=t}:=
 ⟨aC.le.map,λb o e n q=>k b o (λz=>nomatch ((z▸dJ).symm.trans e)) (aC.le.keep b o e n q),aC.le.new,aC.le.au⟩
theorem sA.next {r:Jp×bL} (ok:D.Ok) (dJ:eX.heap.get? aS=none) (aC:sA D jK j5 eX aS it i φ J C s) (e:Y (g8 it i) F C=some r)
  (aR:∀v aO br,F (some v) C=some r->aZ φ br.heap aO v->sA D jK j5 eX aS it (i+1) φ J C br->Q (some aO) br)
  (bG:∀br,F none C=some r->bz D φ J C br->eV D jK j5 eX φ C br->Q none br):wpAny (cX D) D.A (pyNext (.ref aS)) Q E s:=
 eS e λo aG bk e=>gi (afp ok bk aC.B aC.lo aC.it (λv aO g t q k gG AP lo bU=>by nomatch q;exact aR v aO _ e gG ⟨bU,aC.Tw dJ k t,AP,lo⟩) (λg t q k bU=>by nomatch q;exact bG _ e bU (aC.Tw dJ k t))) (λU U z=>z) λU U z=>z.elim
theorem nO.go (h:nO D t v J C K) (B:bz D φ J C s) (r:aZ φ s.heap aO v) (k:∀b3 dQ aG br,eV D φ C s b3 aG br->bz D b3 dQ aG br->K dQ aG->Q () br):wpAny (cX D) D.A (assign t D.env aO) Q E s:=
 gi (h φ s aO B r) (λU br p=>by induction p with|mk b3 dQ aG l B q=>exact k b3 dQ aG br l B q) λU U z=>z.elim
theorem UE (ok:D.Ok) (bE:v8 D x) (B:bz D φ J C s) (r:aZ φ s.heap aO v) (k:∀b3 br,eV D φ C s b3 C br->bz D b3 (J.put x v) C br->Q () br):wpAny (cX D) D.A (assign (.Name x p) D.env aO) Q E s:=
 (Py (K:=λcz aT=>cz=J.put x v/\aT=C) ok bE ⟨rfl,rfl⟩).go B r λb3 dQ aG br l bU q=>by obtain⟨rfl,rfl⟩:=q;exact k b3 br l bU
theorem anY {gv:Expr->aL->aD Bool} (yL:∀c cz aT b gf,ifs=[c]->gv c cz aT=some (b,gf)->ja D c cz aT (Is b gf)) (e:xE gv ifs J C=some (c,aG)) (B:bz D φ J C s)
  (k:∀b3 br,eV D φ C s b3 aG br->bz D b3 J aG br->Q c br):wpAny (cX D) D.A (forIn ifs true λc r=>if r=true then do let ok <-isTrue c D.env (eval c D.env);pure (ForInStep.yield ok)else pure (ForInStep.yield r)) Q E s:=by
 match ifs,e,yL with
 |[],e,_=>nomatch e;exact wpAny_tests_nil (k φ s .refl B)
 |[c],e,yL=>exact wpAny_tests_one ((yL _ _ _ _ _ rfl e).kP B λa b3 br q bQ l=>by subst q;exact k b3 br l bQ)
theorem X_ {r:ay} (ok:D.Ok) (B:bz D φ J C s) (k6:φ r=some b4) (bw:C.h r=some (.list b5)) (hz:b5.length<100000) (x:aZ φ s.heap aO u)
  (k:∀br,bz D φ J ⟨C.h.set r (.list (b5++[u])),C.k⟩ br->eV D φ C s φ ⟨C.h.set r (.list (b5++[u])),C.k⟩ br->Q .none br):wpAny (cX D) D.A (call (.builtin "list.append") [.ref b4,aO]) Q E s:=by
 refine iu λaH ez=>?_
 obtain⟨a,items,n,nw,aY,dJ,_,rs,aR⟩:=Hf B bw (.ref k6)
 refine ez ?_
 nomatch nw
 refine append_at dJ (λg qm u5=>?_) (by rw[qI,aR];exact sq (fV hz (by decide)))
 have m:=B.mut (gh:=.list (b5++[u])) ok k6 (λb o n e=>qm.extBut b o n e) u5 rfl (λim=>⟨_,_,u5,(by simpa using rs.append (.cons x .nil):fG φ s.heap (items.push aO).toList (b5++[u])).mono λU U y=>y.mono (λU U e=>e) im⟩) s.toks
 exact k _ m.1 m.2
end
noncomputable def X4 (eg:ay) (u:I) (b5:List I):aD Unit:=if decide (b5.length<100000)then upd eg (.list (b5++[u]))else no
noncomputable def QE (eg:ay) (m:aD I) (t:Bool):aD Unit:=if t then Y m λu=>Y (obj eg) (jb (X4 eg u))else ai ()
noncomputable def abi (kh:aL->aD Bool) (ek:aL->aD I) (x:Str) (eg:ay) (rec:aL->aD Unit) (J:aL):Option I->aD Unit
 |none=>ai ()
 |some v=>Y (kh (J.put x v)) λt=>Y (QE eg (ek (J.put x v)) t) λU=>rec (J.put x v)
theorem abl {kh:aL->aD Bool} {ek:aL->aD I} {x:Str} {eg:ay} {n i:Nat} {r:Unit×bL} {P:Prop} (e:rO kh ek x it eg J n i C=some r) (k:∀m,m<n->Y (g8 it i) (abi kh ek x eg (λJ=>rO kh ek x it eg J m (i+1)) J) C=some r->P):P:=by
 induction n with
 |zero=>nomatch e
 |succ m=>exact k m (xQ m) e
theorem abm {f:Unit->aD Unit} {r:Unit×bL} {P:Prop} (e:Y (QE eg m true) f C=some r) (k:∀u aG b5,m C=some (u,aG)->aG.h eg=some (.list b5)->b5.length<100000->f () ⟨aG.h.set eg (.list (b5++[u])),aG.k⟩=some r->P):P:=
 eS e λU U bk e=>eS bk λu aG bK bk=>o7 bk λb5 bw bk=>l_ bk λhz bk=>by nomatch bk;exact k u aG b5 bK bw hz e
def Xj (D:dU) (jK:dG) (j5:bL) (eX:Shared) (aS b4:Addr) (it:I) (accN:ay) (c:aL->Nat->Nat->aD Unit) (l0:bL) (n:Nat) (s:Shared):Prop:=
 ∀P:Prop,(∀i φ J C,c J n i C=some ((),l0)->sA D jK j5 eX aS it i φ J C s->φ accN=some b4->P)->P
theorem abq {di:dU} {gv:Expr->aL->aD Bool} {ek:aL->aD I} {mY:Pos} {iter kZ:Expr} {ifs:List Expr} {eB:Scope} {aS b4:Addr} {accN:ay} (ok:di.Ok) (bE:di.env.kindOf x=some .local)
  (yL:∀c cz aT b gf,ifs=[c]->gv c cz aT=some (b,gf)->ja di c cz aT (Is b gf))
  (nB:∀cz aT v gf,ek cz aT=some (v,gf)->dW di kZ cz aT (Is v gf)) {j5:bL} {eX:Shared} {R:Result->Shared->Prop}
  (cC:∀cg cz bW,bz di cg cz l0 bW->eV di jK j5 eX cg l0 bW->cg accN=some b4->R (.ok .next) bW)
  (dJ:eX.heap.get? aS=none) {n:Nat} {cz:aL} {aG:bL} {b3:dG} {br:Shared} (e:rO (xE gv ifs) ek x it accN cz n 0 aG=some ((),l0)) (aC:sA di jK j5 eX aS it 0 b3 cz aG br) (k6:b3 accN=some b4):
  codeAny (cX di) di.A (.compLoop (.ListComp kZ [⟨.Name x mY,iter,ifs,0⟩] eB pos) 0 (.ref aS) (.ref b4) di.env) R br:=
 codeAny_compLoop_tests (Xj di jK j5 eX aS b4 it accN (rO (xE gv ifs) ek x it accN) l0) (λn s p=>p _ λi φ J C e aC k6=>abl e λm bM e=>aC.next ok dJ e
  (λv aO br e r aC=>eS e λc fE bK e=>UE ok (.inl bE) aC.B r λjX jC l B=>anY yL bK B λqJ qz lR iS=>by
   have aC:=(aC.go l B).go lR iS
   have k6:=lR.map _ _ (l.map _ _ k6)
   induction c with
   |false=>exact⟨m,bM,λP k=>k _ _ _ _ e aC k6⟩
   |true=>exact abm e λu oO b5 nv bw hz e=>mL.kP (nB _ _ _ _ nv) aC.B λVV O1 zK zE tu rV=>X_ ok tu (rV.map _ _ k6) bw hz zE λEb Ea Dm=>⟨m,bM,λP k=>k _ _ _ _ e ((aC.go rV tu).go Dm Ea) (rV.map _ _ k6)⟩)
  (λbr e B le=>by nomatch e;exact cC _ _ _ B le k6)) n (λP k=>k _ _ _ _ e aC k6) (λU=>rfl)
theorem qM.grow {aS:Addr} (iZ:∀r a,φ r=some a->b3 r=some a) (k:∀b o,g.get? b=some o->f5.get? b=some o) (x:qM φ g aS i it):qM b3 f5 aS i it:=by
 nomatch it<;>try exact x
 .obtain⟨a,az,aE⟩:=x
  exact⟨a,iZ _ _ az,aE.at (k _)⟩
 .obtain⟨T,eu,n,az,aE,b8⟩:=x
  exact⟨T,eu,n,k _ _ az,aE.mono λU U y=>y.mono iZ λb o e U=>k b o e,b8.at (k _)⟩
 .exact k _ _ x
set_option tactic.hygienic true in
theorem QM (ok:D.Ok) {x:Str} {mY:Pos} {l0:bL} (aN:yq eB D.env.scope x=true)
  (u6:∀x a,jN.lookup x=some a->D.env.cells.lookup x=some a) (CW:∀x,(x,NameKind.free)∈eB.names->∃a,jN.lookup x=some a) (B:bz D φ J C s) (r:aZ φ s.heap aO it) (bk:jP it C=some q)
  {gv:Expr->aL->aD Bool}
  (dj:∀di:dU,di.Ok->di.env.scope=kq eB D.env.scope->di.p=C.k::D.p->di.lvl=D.lvl->
   (∀c cz aT b gf,ifs=[c]->gv c cz aT=some (b,gf)->ja di c cz aT (Is b gf))/\(∀cz aT v gf,ek cz aT=some (v,gf)->dW di kZ cz aT (Is v gf)))
  (e:rO (xE gv ifs) ek x it (0::C.k::D.p) (wA eB J) 1000 0 ⟨C.h.set (0::C.k::D.p) (.list []),1⟩=some ((),l0)):
  wpAny (cX D) D.A (pyIter aO) (λNr jC=>wpAny (cX D) D.A (newList []) (λeg qz=>wpAny (cX D) D.A (newFunctionEnv eB D.env.globals jN [] D.env.qual none .none (some D.env)) (λFG zK=>
   codeAny (cX D) D.A (.compStart (.ListComp kZ [⟨.Name x mY,iter,ifs,0⟩] eB pos) 0 Nr eg {FG with scope:=relabel eB D.env})
    (λr bW=>r=.ok .next/\Js D J φ C s (.ref (0::C.k::D.p)) ⟨l0.h,C.k+1⟩ eg FG.locals bW) zK) dR qz) dR jC) dR s:=by
 refine iu λaH ez=>?_
 obtain⟨⟨⟨⟨fQ,iP⟩,pQ⟩,uR⟩,wz⟩:=KB aN
 refine ez ?_
 refine SK ok bk B r λg GZ yH AP Lf=>?_
 refine wpAny_newList ?_ (by rw[qI];exact lY _)
 refine wpAny_newFunctionEnv iP (λy cM=>by simp at cM) (λt5 mQ wZ=>?_) fQ
 dsimp only at mQ wZ ⊢
 show codeAny (cX D) D.A (.compStart (.ListComp kZ [⟨.Name x mY,iter,ifs,0⟩] eB pos) 0 (.ref s.heap.objs.size) (.ref g.objs.size) (compEnvC eB jN (g.push {cls:=.type "list",data:=.seq [].toArray}).objs.size D.env))
  (λr bW=>r=.ok .next/\Js D J φ C s (.ref (0::C.k::D.p)) ⟨l0.h,C.k+1⟩ (.ref g.objs.size) (g.push {cls:=.type "list",data:=.seq [].toArray}).objs.size bW) {s with heap:=t5,toks:=s.toks+([]:List (Str×Value)).length}
 generalize ow:g.push {cls:=.type "list",data:=.seq [].toArray}=cZ at mQ wZ ⊢
 have apo:=yH
 have R9:cZ.objs.size=s.heap.objs.size+2:=by rw[<-ow,BP,yH]
 have Sg:g.objs.size<cZ.objs.size:=by rw[R9,yH];exact xQ _
 have aeJ:s.heap.objs.size<cZ.objs.size:=by rw[R9];exact I_ (xQ _)
 have Sn:s.heap.objs.size<g.objs.size:=by rw[yH];exact xQ _
 obtain⟨cS,has⟩:=B.U9
 have bG:∀b,s.heap.objs.size<=b->s.heap.get? b=none:=λb aP=>by
  cases q:s.heap.get? b with
  |none=>rfl
  |some o=>exact absurd (tF q) (Nat.not_lt.mpr aP)
 have ve:∀b o,g.get? b=some o->t5.get? b=some o:=λb o e=>wZ.extBut b o (qG (fV (tF e) Sg)) (mF _ (by rw[<-ow];exact mF _ e))
 have au:∀b o,s.heap.get? b=some o->t5.get? b=some o:=λb o e=>ve b o (GZ b o e)
 have k6:=wZ.extBut _ _ (qG Sg) (mF _ (by rw[<-ow];exact nc _ rfl))
 have bI:∀b o,D.jy.get? b=some o->(hideAll s.heap cS).get? b=some o:=λb o e=>EL _ (B.keep b o e) λq=>by
  obtain⟨r,z⟩:=(has b).mp q
  rw[(B.own r b z).2.1]at e;nomatch e
 have no:∀b,s.heap.objs.size<=b->(hideAll s.heap cS).get? b=none:=λb aP=>by
  cases q:(hideAll s.heap cS).get? b with
  |none=>rfl
  |some o=>have:=of_hideAll _ q;rw[bG b aP]at this;nomatch this
 let di:dU:={D with env:=compEnvC eB jN cZ.objs.size D.env,jy:=hideAll s.heap cS,fr:=[cZ.objs.size],p:=C.k::D.p}
 have Qy:∀n a,jN.lookup n=some a->∃o,s.heap.get? a=some o/\(hideAll s.heap cS).get? a=some o:=λn a e=>by
  obtain⟨iD,⟨o,bw,hd⟩,_⟩:=B.l9 n a (u6 n a e)
  refine⟨o,bw,EL _ bw λq=>?_⟩
  obtain⟨r,z⟩:=(has a).mp q
  have:=B.own r a z
  rcases ok.Al n a (u6 n a e)with y|⟨_,y⟩
  .exact this.1 y
  .rw[this.2.1]at y;nomatch y
 have pg:di.Ok:=by
  refine⟨fQ,ok.globals,ok.builtins,ok.room,ok.g.keeps bI,ok.b.keeps bI,ok.bv,ok.nolimit.keeps bI,λb o e z=>bI b o (ok.base b o e z),jH,λc aN=>?_,λn a e=>?_,λn a e=>?_,λn HA a e ff=>?_,λn C2=>?_⟩
  .rw[List.mem_singleton.mp aN];exact no _ (by omega)
  .obtain⟨o,_,aE⟩:=Qy n a e;exact .inr ⟨o,aE⟩
  .obtain⟨o,az,_⟩:=Qy n a e
   have:=tF az
   exact qG (fV this aeJ)
  .exact ok.FI _ _ _ (u6 _ _ e) (u6 _ _ ff)
  .have C2:=C2
   refine CW n ?_
   rcases C2 with q|q<;>obtain⟨j0,az,aE⟩:=VA q
   .rcases aE with aE|⟨_,aE⟩
    .subst aE;exact absurd rfl (iP _ (rY az))
    .subst aE;exact rY az
   .rcases aE with aE|⟨aE,_⟩
    .subst aE;exact rY az
    .nomatch aE
 have bU:bz di φ (wA eB J) ⟨C.h,0⟩ {s with heap:=t5,toks:=s.toks+([]:List (Str×Value)).length}:=by
  refine⟨λb o e=>au b o (of_hideAll _ e),⟨_,mQ,λy v e bJ aes=>?_⟩,λy a e=>?_,λc aN=>?_,λr c e=>?_,B.inj,B.oV,λr e=>B.fresh r (d_.sub e),λr o e=>?_,B.gens,B.drawn,B.os⟩
  .obtain⟨_,m⟩:=QF e bJ
   obtain⟨j0,az,aE⟩:=VA (show(kq eB D.env.scope).names.lookup y=some .local from aes)
   have:=(wz _ m rfl).1
   dsimp only at this
   rw[az]at this
   rcases aE with aE|⟨aE,_⟩
   .subst aE;nomatch this
   .nomatch aE
  .obtain⟨iD,⟨o,bw,hd⟩,f⟩:=B.l9 y a (u6 y a e)
   refine⟨iD,⟨o,au _ _ bw,hd⟩,λv ff bJ U=>?_⟩
   obtain⟨az,m⟩:=QF ff bJ
   obtain⟨aO,aE,b8⟩:=f v az bJ (by
    show D.env.scope.names.lookup y≠some .local
    rcases(wz _ m rfl).2 with z|z<;>dsimp only at z<;>rw[z]<;>exactλq=>by nomatch q)
   exact⟨aO,aE,b8.mono (λU U e=>e) λb o e U=>au b o e⟩
  .rw[List.mem_singleton.mp aN]
   obtain⟨o,ao,jo,ff,d,_⟩:=id mQ
   exact⟨o,ff,Sy mQ ff⟩
  .obtain⟨p,q,o,u,v⟩:=B.own r c e
   refine⟨λz=>?_,hideAll_none _ ((has c).mpr ⟨r,e⟩),o,au _ _ u,v⟩
   rw[List.mem_singleton.mp z,bG _ (by omega)]at u;nomatch u
  .obtain⟨c,p,q⟩:=B.obs r o e
   exact⟨c,p,q.mono (λU U e=>e) (λb o e U=>au b o e) λo e=>au _ o e⟩
 have un:∀b,s.heap.objs.size<=b->∀r,φ r≠some b:=λb aP r e=>by
  obtain⟨_,_,o,u,_⟩:=B.own r b e
  rw[bG b aP]at u;nomatch u
 have amr:=bU.name (gh:=.list []) (un _ (by omega)) (by show g.objs.size∉[cZ.objs.size];simp;omega) (no _ (by omega)) k6 rfl ⟨#[],0,k6,.nil⟩
 have iZ:∀r a,φ r=some a->(φ.set (0::C.k::D.p) g.objs.size) r=some a:=λr a e=>by
  unfold dG.set;split
  .rename_i z;have fr:φ (0::C.k::D.p)=none:=B.fresh _ ⟨[0],C.k,fu _,rfl⟩
   rw[z,fr]at e;nomatch e
  .exact e
 have agU:eV di φ ⟨C.h,0⟩ s (φ.set (0::C.k::D.p) g.objs.size) ⟨C.h.set (0::C.k::D.p) (.list []),1⟩ {s with heap:=t5,toks:=s.toks+([]:List (Str×Value)).length}:=by
  refine⟨iZ,λb o e U U=>au b o e,λr b e=>?_,lY _⟩
  unfold dG.set at e;split at e
  .rename_i z;nomatch e;exact .inr ⟨bG _ (by omega),⟨[],0,fu _,z⟩⟩
  .exact .inl e
 have lo:om di (φ.set (0::C.k::D.p) g.objs.size) t5 s.heap.objs.size:=by
  obtain⟨o,bw,aj⟩:=Lf
  refine⟨no _ (fu _),by show s.heap.objs.size∉[cZ.objs.size];simp;omega,λr e=>?_,o,ve _ _ bw,aj⟩
  unfold dG.set at e;split at e
  .have:=iH e;rw[this]at Sn;exact Nat.lt_irrefl _ Sn
  .exact un _ (fu _) r e
 obtain⟨yL,nB⟩:=dj di pg rfl rfl rfl
 have loop:codeAny (cX D) D.A (.compLoop (.ListComp kZ [⟨.Name x mY,iter,ifs,0⟩] eB pos) 0 (.ref s.heap.objs.size) (.ref g.objs.size) di.env)
   (λr bW=>r=.ok .next/\Js D J φ C s (.ref (0::C.k::D.p)) ⟨l0.h,C.k+1⟩ (.ref g.objs.size) cZ.objs.size bW) {s with heap:=t5,toks:=s.toks+([]:List (Str×Value)).length}:=
  abq pg (lookup_relabel_local pQ) yL nB (λcg cz bW iS lR ad5=>by
   refine⟨rfl,?_⟩
   obtain⟨nt,iW⟩:=bz.back (di:=di) ok B has rfl rfl rfl rfl (λU U e=>e) iS lR
   obtain⟨m,bM,_⟩:=iS.loc
   refine⟨cg,m,bM,iW,nt,.ref ad5,⟨?_,?_,λr z=>?_,iS.ny _ jH⟩,bG _ (by omega)⟩
   .cases z:D.jy.get? cZ.objs.size with
    |none=>rfl
    |some o=>have:=B.keep _ _ z;rw[bG _ (by omega)]at this;nomatch this
   .intro z
    obtain⟨o,e,_⟩:=B.ny _ z
    rw[bG _ (by omega)]at e;nomatch e
   .exact(iS.own r _ z).1 jH) (bG _ (fu _)) e ⟨amr,agU,AP.grow iZ ve,lo⟩ (by unfold dG.set;rw[bT rfl])
 exact codeAny_compStart_list loop (gi (afq (AP.grow iZ ve) loop) (λU U z=>z) λU U z=>z.elim)
end
theorem aog:typeOf (.builtin "list.append")=pure (.type "method_descriptor"):=by show builtinType _=_;rw[I7];kernel_rfl
theorem aoi:typeOf (.builtin "list.pop")=pure (.type "method_descriptor"):=by show builtinType _=_;rw[I7];kernel_rfl
theorem aoh:typeOf (.builtin "list.index")=pure (.type "method_descriptor"):=by show builtinType _=_;rw[I7];kernel_rfl
theorem aoj:typeOf (.builtin "dict.update")=pure (.type "method_descriptor"):=by show builtinType _=_;rw[I7];kernel_rfl
def pJ (L:ay->Addr->List I->aD I) (n:Nat):Prop:=∀D φ J C s a aa eG q,D.Ok->n<=D.lvl->L D.p a aa C=some q->bz D φ J C s->fG φ s.heap eG aa->
 codeAny (cX D) D.A (.call (.ref a) ⟨eG,[]⟩) (λr bW=>∃aO,r=.ok (.ret aO)/\d6 aZ D J φ C s (Is q.1 q.2) aO bW) s
def uG (D:dU) (i7:Value):Prop:=∀h,(gb D.w.params).In h->∃k,(k=Keeper.frame\/k=Keeper.machine\/k=Keeper.boundFrame)/\Looks (cX D) h (keeperOf i7) k
section
variable {D:dU}
theorem Ky (D) (h:keepIn (gb D.w.params) (.ref a)=true):uG D (.ref a):=λg K=>by
 obtain⟨k,a,b⟩:=looks_keep (M:=cX D) h K
 exact⟨k,a.elim .inl λz=>.inr (.inl z),b⟩
theorem ah9:(jc.all λp=>p.2.meths.all λm=>(iA.lookup m.2).isSome)=true:=by kernel_rfl
theorem aib (aN:(aH,c)∈jc) (h:c.meths.lookup x=some a):keepIn (gb P) (.ref a)=true:=by
 have:=List.all_eq_true.mp (List.all_eq_true.mp ah9 _ aN) _ (rY h)
 obtain⟨f,bD⟩:=Option.isSome_iff_exists.mp this
 exact(K1 (P:=P) bD).1
theorem Sx {m Ht:aD b9} {P:Prop} (e:(if c=true then m else Ht) C=some q) (g6:c=true->m C=some q->P) (gK:Ht C=some q->P):P:=by
 induction c with
 |true=>exact g6 rfl e
 |false=>exact gK e
theorem ah8 {P:I->I×bL->Prop} (e:i0 v x C=some q)
  (LW:∀r aH d l c a,C.h r=some (.inst aH d)->C.h d=some (.attrs l)->l.lookup x=none->jc.lookup aH=some c->c.meths.lookup x=some a->P (.ref r) (.at a,C))
  (agv:∀r xs,C.h r=some (.list xs)->(if x=="append" then ai (.bi "list.append")else if x=="pop" then ai (.bi "list.pop")else if x=="index" then ai (.bi "list.index")else no:aD I) C=some q->P (.ref r) q)
  (sT:∀r l,C.h r=some (.cB l)->x="update"->P (.ref r) (.bi "dict.update",C)):P v q:=by
 cases v with
 |ref r=>exact ud e λo bw e=>(by
   induction o with
   |inst aH d=>exact ud e λo yI e=>(by
     induction o with
     |attrs l=>exact gE e λaI e=>pZ e λc aN e=>pZ e λa aY e=>pA (P:=λq=>P (.ref r) q) e (LW r aH d l c a bw yI (Option.isNone_iff_eq_none.mp aI) aN aY)
     |_=>exact fK e)
   |list xs=>exact agv r xs bw e
   |cB l=>exact gE e λbE e=>pA (P:=λq=>P (.ref r) q) e (sT r l bw (zX bE))
   |_=>exact fK e)
 |_=>exact fK e
theorem akH {x:Str} {pn:Sem Bool} (ok:D.Ok) (e:i0 v x C=some q) (B:bz D φ J C s) (r:aZ φ s.heap aO v)
  (h:∀i7,q.2=C->aZ φ s.heap i7 q.1->uG D i7->Q (i7,[aO]) s):wpAny (cX D) D.A (getMethod aO x pn) Q dR s:=
 have Fo:∀{q:I×bL} {aO:Value} i,q=(.bi i,C)->(∀i7,q.2=C->aZ φ s.heap i7 q.1->uG D i7->Q (i7,[aO]) s)->Q (.builtin i,[aO]) s:=λi e h=>h _ (by rw[e]) (by rw[e];exact .bi _) λh U=>⟨.machine,.inr (.inl rfl),Looks.of_pure rfl⟩
 ah8 (P:=λv q=>aZ φ s.heap aO v->(∀i7,q.2=C->aZ φ s.heap i7 q.1->uG D i7->Q (i7,[aO]) s)->wpAny (cX D) D.A (getMethod aO x pn) Q dR s) e
  (λw7 aH d l c a az aE aI aN aY r=>LD (P:=λaO=>(∀i7,(I.at a,C).2=C->aZ φ s.heap i7 (.at a)->uG D i7->Q (i7,[aO]) s)->wpAny (cX D) D.A (getMethod aO x pn) Q dR s) B az aE r λdB kY ao n bk bK cK A U aS h=>
   have F:=Cx (P:=D.w.params) aN
   have m:=F.1.2 _ (rY aY)
   have Vf:=plainGet_of (name:=Str.empty) F.1.1.1.1.1.1.1.1.1
   method_fn (B.au ok) aS Vf.1 Vf.2 m.1 (beq_iff_eq.mp m.2) (by
    have f:=JY (x:=x) A
    rw[aI]at f
    show(lookIn x (dictOf ao _)).map _=_;rw[lookIn_dict,f];rfl) (h _ rfl (.at _) (Ky _ (aib (QA aN) aY))))
  (λw7 xs bw e r h=>n0 (P:=λaO=>(∀i7,q.2=C->aZ φ s.heap i7 q.1->uG D i7->Q (i7,[aO]) s)->wpAny (cX D) D.A (getMethod aO x pn) Q dR s) B bw r (λa items m aY dJ d8 rs aR h=>
   have p0:∀b,Value.ref a=.ref b->∃o,s.heap.get? b=some o/\o.dict=none:=λb e=>⟨_,Value.ref.inj e▸dJ,rfl⟩
   Sx e (λbE e=>zX bE▸Jb ⟨_,dJ,rfl⟩ OK PySem.F.slot_list_append aog p0 (Fo _ (rq e) h)) λe=>Sx e (λbE e=>zX bE▸Jb ⟨_,dJ,rfl⟩ OK PySem.F.slot_list_pop aoi p0 (Fo _ (rq e) h))
    λe=>gE e λbE e=>zX bE▸Jb ⟨_,dJ,rfl⟩ OK PySem.F.slot_list_index aoh p0 (Fo _ (rq e) h)) h)
  (λw7 l bw bE r h=>yO (P:=λaO=>(∀i7,(I.bi "dict.update",C).2=C->aZ φ s.heap i7 (.bi "dict.update")->uG D i7->Q (i7,[aO]) s)->wpAny (cX D) D.A (getMethod aO x pn) Q dR s) B bw r (λa bO aY hd G h=>
   bE▸Jb hd.typeIs PySem.F.plainAttrs_dict PySem.F.slot_dict_update aoj (λb e=>hd.elim λo z=>z.elim λao z=>z.elim λjo z=>⟨o,Value.ref.inj e▸z.1,z.2.1.2.1⟩) (Fo _ rfl h)) h) r h
theorem aom (h:x9 A (k+1)):x9 (A.under (.builtin "type.__call__" ⟨.ref aH::jT,[]⟩)) k:=by
 obtain⟨az,aE,b8⟩:=h
 have bk:(Code.builtin "type.__call__" ⟨.ref aH::jT,[]⟩).weight=1:=by kernel_rfl
 have bK:(Code.builtin "type.__call__" ⟨.ref aH::jT,[]⟩).cUnits=1:=by kernel_rfl
 refine⟨az,?_,?_⟩
 .show A.depth+(Code.builtin "type.__call__" ⟨.ref aH::jT,[]⟩).weight+k<_
  rw[bk];omega
 .show A.units+(Code.builtin "type.__call__" ⟨.ref aH::jT,[]⟩).cUnits+8*k+80<_
  rw[bK];omega
noncomputable def dU.gH (D:dU) (A:Around) (k:Nat):dU:={D with A:=A,lvl:=k}
theorem bz.around {A:Around} (B:bz D φ J C s):bz (D.gH A k) φ J C s:=⟨B.keep,B.loc,B.l9,B.ny,B.own,B.inj,B.oV,B.fresh,B.obs,B.gens,B.drawn,B.os⟩
theorem bz.Lu {A:Around} (B:bz (D.gH A k) φ J C s):bz D φ J C s:=⟨B.keep,B.loc,B.l9,B.ny,B.own,B.inj,B.oV,B.fresh,B.obs,B.gens,B.drawn,B.os⟩
theorem eV.Lu {A:Around} (l:eV (D.gH A k) φ C s b3 aG br):eV D φ C s b3 aG br:=⟨l.map,l.keep,l.new,l.au⟩
theorem dU.Ok.gH {A:Around} (ok:D.Ok) (r:x9 A k):(D.gH A k).Ok:=⟨ok.kind,ok.globals,ok.builtins,r,ok.g,ok.b,ok.bv,ok.nolimit,ok.base,ok.vf,ok.Gp,ok.Al,ok.yp,ok.FI,ok.cls⟩
theorem aaO {P:I×bL->Prop} (e:fz L p (.at a) aa C=some q)
  (dm:∀c iO,jc.lookup a=some c->L p c.init (.ref ((C.k+1)::p)::aa) ⟨(C.h.set (C.k::p) (.attrs [])).set ((C.k+1)::p) (.inst a (C.k::p)),C.k+2⟩=some (.none,iO)->P (.ref ((C.k+1)::p),iO))
  (yW:L p a aa C=some q->P q):P q:=by
 unfold fz at e
 dsimp only at e
 cases aN:jc.lookup a with
 |none=>rw[aN]at e;exact yW e
 |some c=>
  rw[aN]at e
  exact eS (show Y (L p c.init (.ref ((C.k+1)::p)::aa)) (λu=>match u with| .none=>ai (.ref ((C.k+1)::p))|_=>no) ⟨(C.h.set (C.k::p) (.attrs [])).set ((C.k+1)::p) (.inst a (C.k::p)),C.k+2⟩=some q from e) λu iO gJ e=>(by
   cases u with
   |none=>exact d7 e (dm c iO aN gJ)
   |_=>exact fK e)
theorem aof (ok:D.Ok) (B:bz D φ J C s) (a):
  ∃cg,cg ((C.k+1)::D.p)=some (s.heap.objs.size+1)/\bz D cg J ⟨(C.h.set (C.k::D.p) (.attrs [])).set ((C.k+1)::D.p) (.inst a (C.k::D.p)),C.k+2⟩ {s with heap:=(s.heap.push emptyDict).push (instObj a s.heap.objs.size)}/\
   eV D φ C s cg ⟨(C.h.set (C.k::D.p) (.attrs [])).set ((C.k+1)::D.p) (.inst a (C.k::D.p)),C.k+2⟩ {s with heap:=(s.heap.push emptyDict).push (instObj a s.heap.objs.size)}:=by
 have jj:=B.new (g:=s.heap.push emptyDict) (gh:=.attrs []) ok (nH _) (λb o e=>mF _ e) (nc _ rfl) rfl ⟨[],0,nc _ rfl,.nil,lY _⟩ s.toks
 have iB:=jj.1.new (g:=(s.heap.push emptyDict).push (instObj a s.heap.objs.size)) (gh:=.inst a (C.k::D.p)) ok (nH _) (λb o e=>mF _ e) (nc _ rfl) rfl
  ⟨s.heap.objs.size,dG.V4 (jj.1.fresh _ (d_.self D.p (C.k+1))) _ _ dG.NL,nc _ rfl⟩ s.toks
 exact⟨_,dG.NL.trans (cJ some (BP ..)),iB.1,jj.2.trans jj.1 iB.2⟩
theorem akK {a:Addr} (ok:D.Ok) (h_:pJ L n) (aI:n+1<=D.lvl) (aN:jc.lookup a=some c)
  (e:L D.p c.init (.ref ((C.k+1)::D.p)::aa) ⟨(C.h.set (C.k::D.p) (.attrs [])).set ((C.k+1)::D.p) (.inst a (C.k::D.p)),C.k+2⟩=some (.none,iO)) (B:bz D φ J C s) (rs:fG φ s.heap eG aa):
  wpAny (cX D) D.A (call (.ref a) eG) (d6 aZ D J φ C s (Is (.ref ((C.k+1)::D.p)) iO)) dR s:=by
 have F:=Cx (P:=D.w.params) aN
 have K:=B.au ok
 have Ig:x9 D.A (D.lvl -1+1):=by rw[I8 (Nat.le_of_add_left_le aI)];exact ok.room
 refine wpAny_call (xS (R:=λr bW=>∃aO,r=.ok (.ret aO)/\d6 aZ D J φ C s (Is (.ref ((C.k+1)::D.p)) iO) aO bW) ?_ λr bW p=>p.elim λaO p=>p.1▸p.2)
 refine make_core (h:=s.heap) (g:=s.gens) (d:=s.drawn) (t:=s.toks) (os:=s.os) (makes_of K F.1.1.1.1.1.2) (looks_findIn K F.1.1.1.1.2) (λself=>bind_fn K self F.1.1.1.2) (.inl rfl) ?_
 exact(aof ok B a).elim λcg z=>xS (h_ (D.gH (D.A.under (.builtin "type.__call__" ⟨.ref a::eG,[]⟩)) (D.lvl -1)) cg J _ _ c.init _ _ _ (ok.gH (aom Ig)) (Nat.le_sub_of_add_le aI) e z.2.1.around (.cons (.ref z.1) (B.Es z.2.2 rs))) λr bW p=>p.elim λaO p=>p.2.k λb b3 aG l r bQ q=>(by
  obtain⟨nI,iM⟩:=q
  rw[p.1]
  exact⟨(nI▸r).none_inv,_,rfl,_,b3,_,z.2.2.trans z.2.1 (iM▸l).Lu,.ref (l.map _ _ z.1),(iM▸bQ).Lu,rfl,rfl⟩)
theorem akE {f:I} {q:I×bL} (ok:D.Ok) (h_:pJ L n) (aI:n+1<=D.lvl) (e:fz L D.p f aa C=some q) (B:bz D φ J C s) (r:aZ φ s.heap i7 f) (rs:fG φ s.heap eG aa):
  wpAny (cX D) D.A (call i7 eG) (d6 aZ D J φ C s (Is q.1 q.2)) dR s:=by
 cases f with
 |«at» a=>
  rw[r.PC]
  exact aaO (P:=λq=>wpAny (cX D) D.A (call (.ref a) eG) (d6 aZ D J φ C s (Is q.1 q.2)) dR s) e (λc iO aN e=>akK ok h_ aI aN e B rs) λe=>
   wpAny_call (xS (h_ D φ J C s _ _ _ _ ok (OX aI) e B rs) λr bW p=>p.elim λaO p=>p.1▸p.2)
 |type t=>rw[r.WK];exact akL ok e B rs
 |bi t=>rw[r.PV];exact akC ok e B rs
 |_=>exact fK e
end
def su (L:ay->Addr->List I->aD I):Prop:=∀p a aa C q,L p a aa C=some q->∃f,iA.lookup a=some f
theorem aje [Decidable c] (e:(if c then no else m) C=some q):¬c/\m C=some q:=by
 split at e
 .nomatch e
 .exact⟨‹_›,e⟩
theorem Is.go {P:ef->bL->Prop} (h:P b C):∀fM aT,Is b C fM aT->P fM aT:=by rintro _ _ ⟨rfl,rfl⟩;exact h
section
theorem adY (ok:D.Ok) (h:globals.lookup x=some v):E5 D x v:=by
 have m:=rY h
 unfold globals at m
 rcases List.mem_append.mp m with m|m
 .obtain⟨i,aj,e⟩:=List.getElem_of_mem m
  exact adX ok i (by rw[h7 aj,e])
 .obtain⟨i,aj,e⟩:=List.getElem_of_mem m
  exact adW ok i (by rw[h7 aj,e])
theorem aop (ok:D.Ok) (e:Ep D.env.scope J x C=some q):dW D (.Name x p) J C (Is q.1 q.2):=by
 unfold Ep at e
 obtain⟨hd,e⟩:=aje e
 have az:(x==Ax)=false:=by cases z:x==Ax with|true=>exact absurd (by rw[z];rfl) hd|false=>rfl
 have aE:(x==Am)=false:=by cases z:x==Am with|true=>exact absurd (by rw[z,Bool.or_true]) hd|false=>rfl
 have key:∀k,D.env.scope.names.lookup x=some k->k≠.globalImplicit->k≠.globalExplicit->(match J.lookup x with
   |some .undef=>no
   |some v=>ai v
   |none=>(no:aD I)) C=some q->dW D (.Name x p) J C (Is q.1 q.2):=λk bI kD mW e=>by
  cases aI:J.lookup x with
  |none=>rw[aI]at e;nomatch e
  |some v=>
   rw[aI]at e
   have bJ:v≠.undef:=λz=>by subst z;nomatch e
   have e:ai v C=some q:=by nomatch v<;>first|exact e|exact absurd rfl bJ
   have e:=rq e
   subst e
   induction k with
   |«local»=>exact acJ ok az bI aI bJ ⟨rfl,rfl⟩
   |cell=>obtain⟨a,aY⟩:=ok.cls x (.inl bI);exact Rp ok az aE (.inl bI) aY aI bJ ⟨rfl,rfl⟩
   |free=>obtain⟨a,aY⟩:=ok.cls x (.inr bI);exact Rp ok az aE (.inr bI) aY aI bJ ⟨rfl,rfl⟩
   |globalImplicit=>exact absurd rfl kD
   |globalExplicit=>exact absurd rfl mW
 cases bI:D.env.scope.names.lookup x with
 |none=>rw[bI]at e;nomatch e
 |some k=>
  rw[bI]at e
  induction k with
  |globalImplicit=>
   obtain⟨v,bJ,q⟩:=Df e
   subst q
   exact acE ok az bI (adY ok bJ) ⟨rfl,rfl⟩
  |globalExplicit=>nomatch e
  |«local»=>exact key _ bI (λz=>by nomatch z) (λz=>by nomatch z) e
  |cell=>exact key _ bI (λz=>by nomatch z) (λz=>by nomatch z) e
  |free=>exact key _ bI (λz=>by nomatch z) (λz=>by nomatch z) e
theorem Z8 (ok:D.Ok) (e:fk D.p eO a b C=some q):vY D eO a b J C (Is q.1 q.2):=λφ s dZ eA B r bV=>akA ok e B r bV
theorem abf (ok:D.Ok) (e:dX eO a b C=some q):tM D eO a b J C (Is q.1 q.2):=λφ s dZ eA B r bV=>Va ok e B r bV
theorem acU {M:Model} {E:Value->Shared->Prop} (cA:args.any (·.1)=false)
  (h:wpAny M A (spliced args) (λaa bW=>Q ⟨aa,[]⟩ bW) E s):wpAny M A (evalArgs f true args []) Q E s:=by
 induction args with
 |nil=>
  unfold evalArgs
  refine eP (gi h (λaa bW bH=>eP (jJ ?_)) λU U x=>x)
  refine qF ?_
  exact eP (jJ (eP (jJ (jJ bH))))
 |cons a l=>
  obtain⟨b,x⟩:=a
  rw[List.any_cons,Bool.or_eq_false_iff]at cA
  obtain⟨rfl,_⟩:=cA
  exact evalArgs_plain h
theorem aaQ (ok:D.Ok) (iR:su L) {f:I} (e:fz L D.p f aa C=some q) (r:aZ φ h i7 f):uG D i7:=by
 cases f with
 |«at» a=>
  rw[r.PC]
  unfold fz at e
  dsimp only at e
  cases aN:jc.lookup a with
  |some c=>exact Ky D (by have F:=Cx (P:=D.w.params) aN;exact F.1.1.2)
  |none=>
   rw[aN]at e
   obtain⟨f,bD⟩:=iR _ _ _ _ _ e
   exact Ky D (K1 bD).1
 |type t=>rw[r.WK];exactλg K=>⟨.machine,.inr (.inl rfl),Looks.of_pure rfl⟩
 |bi t=>rw[r.PV];exactλg K=>⟨.machine,.inr (.inl rfl),Looks.of_pure rfl⟩
 |_=>nomatch e
theorem Qx (ok:D.Ok) (h_:pJ L n) (aI:n+1<=D.lvl) {f:I}
  (bI:uG D i7) (r:aZ φ s.heap i7 f) (rs:fG φ s.heap first adL) (cK:uH D args J C (Is aa aG)) (cA:(backTo pos (starEach args D.env)).any (·.1)=false) (e:fz L D.p f (adL++aa) aG=some q) (B:bz D φ J C s):
  wpAny (cX D) D.A (callWith pos i7 first (backTo pos (starEach args D.env)) []) (d6 aZ D J φ C s (Is q.1 q.2)) dR s:=by
 refine callWith_of (by rw[cA];rfl) bI (acU cA ?_)
 refine(cK pos).step B λcS eW b3 br fE e7 bQ dH g_=>⟨bQ.au ok,?_⟩
 refine iu λaH ez=>?_
 obtain⟨rfl,rfl⟩:=g_
 refine ez ?_
 exact gi (akE ok h_ aI e bQ (B.m7 dH r) ((B.Es dH rs).append e7)) (λU U p=>p.after bQ dH) λU U x=>x
theorem PS (h:yg o=true):attributeBase o x env whole=whole:=by
 cases o with
 |Call f cS dm p=>cases cS with
  |nil=>exact lP h
  |cons a l=>rcases f with _|_<;>rfl
 |_=>rfl
theorem Vi:∀{l:List (Bool×Sem Value)},l.any (·.1)=false->l.all (!·.1)=true
 |[],_=>rfl
 |(b,x)::l,h=>by
  rw[List.any_cons,Bool.or_eq_false_iff]at h
  rw[List.all_cons,Vi h.2]
  obtain⟨rfl,_⟩:=h
  rfl
theorem acK (ok:D.Ok) (h_:pJ L n) (aI:n+1<=D.lvl) (aP:yg o=true) (aeE:(JR.endLine==pos.line)=true) (gD:args.length<30)
  (bw:dW D o J C (Is iD aG)) (bM:i0 iD x aG=some (f,fE)) (cK:uH D args J fE (Is aa iO)) (cA:∀pos,(backTo pos (starEach args D.env)).any (·.1)=false) (e:fz L D.p f (iD::aa) iO=some q):
  dW D (.Call (.Attribute o x JR) args [] pos) J C (Is q.1 q.2):=λφ s B=>by
 rw[arm_eval_Call,PS aP]
 refine eP (bw.kP B λdZ b3 br e7 bQ dH=>eP (BQ ?_))
 unfold methodCall
 have bD:methodCallForm (args.length+([]:List Keyword).length) (backTo pos (starEach args D.env)) (backToKw pos (keywordEach [] D.env))=true:=by
  unfold methodCallForm
  rw[Vi (cA pos)]
  show(true&&true&&decide (args.length+0+0<30))=true
  simpa using gD
 rw[bD]
 refine eP (qF ?_)
 refine akH ok bM bQ e7 λi7 aE gW bI=>?_
 dsimp only at aE gW
 subst aE
 refine eP ?_
 unfold methodCallPos
 rw[aeE]
 refine jJ ?_
 exact gi (Qx ok h_ aI bI gW (.cons e7 .nil) cK (cA pos) e bQ) (λU U p=>p.after bQ dH) λU U x=>x
theorem acy (ok:D.Ok) (h_:pJ L n) (iR:su L) (aI:n+1<=D.lvl) {o:Expr} (bG:MO o=true)
  (bw:dW D o J C (Is f aG)) (cK:uH D args J aG (Is aa fE)) (cA:∀pos,(backTo pos (starEach args D.env)).any (·.1)=false) (e:fz L D.p f aa fE=some q):
  dW D (.Call o args [] pos) J C (Is q.1 q.2):=λφ s B=>by
 have:eval (.Call o args [] pos) D.env=(do callWith pos (<-eval o D.env) [] (backTo pos (starEach args D.env)) (backToKw pos (keywordEach [] D.env))):=by
  nomatch o<;>first|rfl|nomatch bG
 rw[this]
 refine eP (bw.kP B λdZ b3 br e7 bQ dH=>?_)
 exact gi (Qx ok h_ aI (aaQ ok iR e e7) e7 .nil cK (cA pos) e bQ) (λU U p=>p.after bQ dH) λU U x=>x
theorem acs (ok:D.Ok) (aP:yg o=true) (bw:dW D o J C (Is iD aG)) (e:fB iD x aG=some q):dW D (.Attribute o x pos) J C (Is q.1 q.2):=λφ s B=>by
 refine Attribute_any_ (bw.step B λdZ a b3 br ao5 e7 bQ dH g_=>?_) (by rw[arm_eval_Attribute,PS aP])
 obtain⟨rfl,rfl⟩:=g_
 exact gi (akG ok e bQ e7) (λU U p=>p.after bQ dH) λU U x=>x
theorem acH (ok:D.Ok) (aR:s5 i=true) (bw:dW D o J C (Is a aG)) (aj:dW D i J aG (Is b fE)) (e:item a b fE=some q):dW D (.Subscript o i pos) J C (Is q.1 q.2):=λφ s B=>
 Subscript_ (bw.kP B λdZ b3 br e7 bQ dH=>by
  refine aj.kP bQ λeA jX jC kS fh gp=>?_
  exact gi (akI ok aR e fh (bQ.m7 gp e7) kS) (λU U p=>p.after fh (dH.trans bQ gp)) λU U x=>x)
theorem acQ (ok:D.Ok) (bw:dW D o J C (Is v aG)) (aY:mL aZ D (evalPart l D.env) J aG (Is a fE)) (aP:mL aZ D (evalPart u D.env) J fE (Is b iO)) (aN:mL aZ D (evalPart t D.env) J iO (Is c oO))
  (e:slice D.p v a b c oO=some q):dW D (.Subscript o (.Slice l u t A_) pos) J C (Is q.1 q.2):=λφ s B=>
 Subscript_ (bw.kP B λaO b3 br e7 bQ dH=>by
  refine wpAny_Slice (aY.kP bQ λdZ jX jC kS fh gp=>?_)
  refine aP.kP fh λeA qJ qz NG iS lR=>?_
  refine aN.kP iS λxu O1 zK zE tu rV=>?_
  have Ub:=lR.trans iS rV
  have Ua:=gp.trans fh Ub
  exact gi (akQ ok e tu (bQ.m7 Ua e7) (fh.m7 Ub kS) (iS.m7 rV NG) zE) (λU U p=>p.after tu (dH.trans bQ Ua)) λU U x=>x)
theorem acI (ok:D.Ok) (cK:uH D ao J C (Is aa aG)) (hz:aa.length<=1000):dW D (.List ao pos) J C (Is (.ref (aG.k::D.p)) ⟨aG.h.set (aG.k::D.p) (.list aa),aG.k+1⟩):=λφ s B=>
 wpAny_List ((cK pos).kP B λcS b3 br e7 bQ dH=>by
  refine⟨by rw[e7.len,qI];omega,?_⟩
  exact d6.after bQ dH (xm ok bQ (nH _) (λb o e=>mF _ e) (nc _ rfl) (by simpa using e7) br.toks))
theorem acS (ok:D.Ok) (cK:uH D ao J C (Is aa aG)) (hz:aa.length<=1000):dW D (.Tuple ao k pos) J C (Is (.tup aa) aG):=λφ s B=>
 wpAny_Tuple ((cK pos).kP B λcS b3 br e7 bQ dH=>by
  refine⟨by rw[e7.len,qI];omega,?_⟩
  have k:∀b o,br.heap.get? b=some o->(br.heap.push (xF cS.toArray 0)).get? b=some o:=λb o e=>mF _ e
  exact d6.after bQ dH (uf ok bQ k (.Oh (nc _ rfl) (by simpa using e7.mono λU U y=>y.mono (λU U e=>e) λb o e U=>k b o e))))
end
section
theorem Cz (ok:D.Ok) (e:dX eO a b C=some q) (B:bz D φ J C s) (r:aZ φ s.heap dZ a) (bV:aZ φ s.heap eA b)
  (h:∀b3 br,eV D φ C s b3 q.2 br->bz D b3 J q.2 br->Q (.bool q.1) br):wpAny (cX D) D.A (compareOp eO dZ eA) Q dR s:=
 gi (Va ok e B r bV) (λaO br p=>by obtain⟨c,b3,aG,l,rfl,bQ,rfl,rfl⟩:=p;exact h _ _ l bQ) λU U x=>x
theorem acz (ok:D.Ok) {l r q:Expr} (bM:behindInMarks oH q=false) (aI:dW D l J C (Is a aG)) (aQ:dW D r J aG (Is b fE)) (aN:dX eO a b fE=some (t,iO))
  (bD:t=false->z=(.bool false,iO)) (bY:t=true->∃c oO u Cb,dW D q J iO (Is c oO)/\dX oH b c oO=some (u,Cb)/\z=(.bool u,Cb)):dW D (.Compare l [eO,oH] [r,q] pos) J C (Is z.1 z.2):=λφ s B=>
 Compare_chain (aI.kP B λdZ b3 br e7 bQ dH=>by
  refine chain_link (aQ.kP bQ λeA jX jC kS fh gp=>?_)
  refine Cz ok aN fh (bQ.m7 gp e7) kS λqJ qz lR iS=>E0 ?_
  have l:=(dH.trans bQ gp).trans fh lR
  cases t with
  |false=>rw[bD rfl];exact⟨_,qJ,_,l,.bool _,iS,rfl,rfl⟩
  |true=>
   obtain⟨c,oO,u,Cb,az,aE,rfl⟩:=bY rfl
   refine chain_last (az.kP iS λxu O1 zK zE tu rV=>?_)
   exact Cz ok aE tu (fh.m7 (lR.trans iS rV) kS) zE λO2 Eb Dm Ea=>⟨_,O2,_,l.trans iS (rV.trans tu Dm),.bool _,Ea,rfl,rfl⟩) (by simpa[lastMarks]using bM)
theorem anR (ok:D.Ok) {l r q:Expr} (bM:behindInMarks oH q=false) (aI:dW D l J C (Is a aG)) (aQ:dW D r J aG (Is b fE)) (aN:dX eO a b fE=some (t,iO))
  (bD:t=false->z=(false,iO)) (bY:t=true->∃c oO,dW D q J iO (Is c oO)/\dX oH b c oO=some z):ja D (.Compare l [eO,oH] [r,q] pos) J C (Is z.1 z.2):=λφ s B=>
 isTrue_chain (aI.kP B λdZ b3 br e7 bQ dH=>by
  refine test_link (aQ.kP bQ λeA jX jC kS fh gp=>?_)
  refine Cz ok aN fh (bQ.m7 gp e7) kS λqJ qz lR iS=>E0 ?_
  have l:=(dH.trans bQ gp).trans fh lR
  cases t with
  |false=>rw[bD rfl];exact⟨_,qJ,_,l,rfl,iS,rfl,rfl⟩
  |true=>
   obtain⟨c,oO,az,aE⟩:=bY rfl
   refine test_last (az.kP iS λxu O1 zK zE tu rV=>?_)
   exact Cz ok aE tu (fh.m7 (lR.trans iS rV) kS) zE λO2 Eb Dm Ea=>E0 ⟨_,O2,_,l.trans iS (rV.trans tu Dm),rfl,Ea,rfl,rfl⟩) (by simpa[lastMarks]using bM)
theorem anV (h:ja D x J C λb aG=>(b=false->ja D y J aG λb fE=>(b=false->ja D z J fE Q)/\(b=true->Q true fE))/\(b=true->Q true aG)):ja D (.BoolOp .Or [x,y,z] p) J C Q:=λφ s B=>
 OR (EV (h.step B λa b b3 br aG e7 bQ dH g_=>by
  nomatch e7
  induction a with
  |true=>exact⟨_,b3,aG,dH,rfl,bQ,g_.2 rfl⟩
  |false=>exact EV ((g_.1 rfl).step bQ λa b jX jC fE kS fh gp pq=>by
    nomatch kS
    induction a with
    |true=>exact⟨_,jX,fE,dH.trans bQ gp,rfl,fh,pq.2 rfl⟩
    |false=>exact EV ((pq.1 rfl).step fh λa b qJ qz iO NG iS lR Vr=>by
      nomatch NG
      have l:=(dH.trans bQ gp).trans fh lR
      induction a with
      |true=>exact⟨_,qJ,iO,l,rfl,iS,Vr⟩
      |false=>exact wpAny_allTrue_Or_nil ⟨_,qJ,iO,l,rfl,iS,Vr⟩))))
theorem afn (h:M0 e=true):isTrue e env whole=(do let v <-whole;standAt e.pos;holding [v] (truthy v)):=by
 cases e with
 |UnaryOp=>exact lP h
 |BoolOp=>exact lP h
 |Compare=>exact lP h
 |IfExp=>exact lP h
 |_=>rfl
def qO {K:Type} [DecidableEq K] (D:dU) (knd:KeyKind c3 D.w K) (bq:Expr) (k:K):Prop:=∀s Q,(∀nF t,knd.is k nF=true->Q nF {s with toks:=t})->wpAny (cX D) D.A (eval bq D.env) Q dR s
theorem ags (x:Str) k (p):qO D (strKind c3 D.w) (.Constant (.str x) k p) x:=λs Q h=>Constant_str (h _ _ (strKind_is c3 D.w _ _))
theorem agr (x:Int) k (p):qO D (intKind c3 D.w) (.Constant (.int x) k p) x:=λs Q h=>wpAny_Constant_int (h _ _ (intKind_is c3 D.w _ _))
theorem JP {K:Type} {bO:List (K×Value)} {l:List (K×I)} (A:dS (i_ φ h) bO l):bO.map (·.1)=l.map (·.1):=by
 induction A with
 |nil=>rfl
 |cons r _ ih=>rw[nN,nN,ih,r.1]
noncomputable def qL (D:dU) (J:aL):List Expr->bL->List I->bL->Prop
 |[],C,aa,aT=>aa=[]/\aT=C
 |e::ao,C,aa,aT=>∃v aG b5,aa=v::b5/\dW D e J C (Is v aG)/\qL D J ao aG b5 aT
theorem Ve {K:Type} [DecidableEq K] {knd:KeyKind c3 D.w K} (ok:D.Ok) {dm:List K} (A:dS (λbq k=>∃e,bq=some e/\qO D knd e k) o5 dm):
  ∀{ao:List Expr} {aa:List I} {C:bL} {φ:dG} {s:Shared},dm.length=ao.length->qL D J ao C aa aT->bz D φ J C s->
  ∀{Q:List (Value×Value)->Shared->Prop},(∀xq bO b3 br,eV D φ C s b3 aT br->bz D b3 J aT br->Carries knd xq bO->dS (i_ b3 br.heap) bO (dm.zip aa)->Q xq br)->wpAny (cX D) D.A (evalPairs (pairTrees o5 ao D.env pos)) Q dR s:=by
 induction A with
 |nil=>
  intro ao aa C φ s gD bJ B Q h
  induction ao with
  |nil=>
   obtain⟨rfl,rfl⟩:=bJ
   exact pairTrees_nil_walk (h [] [] φ s .refl B trivial .nil)
  |cons _ _=>simp at gD
 |@cons bq k o5 dm bI CZ ih=>
  intro ao aa C φ s gD bJ B Q h
  cases ao with
  |nil=>simp at gD
  |cons e ao=>
   obtain⟨v,aG,b5,rfl,cK,rR⟩:=bJ
   obtain⟨bq,rfl,bI⟩:=bI
   refine pairTrees_cons_walk (bI s _ λnF t C0=>?_)
   refine mL.step cK (B.toks t) λaO fU b3 br Xz e7 bQ dH g_=>?_
   obtain⟨rfl,rfl⟩:=g_
   refine ih (by simpa using gD) rR bQ λxq bO jX jC gp fh c a=>?_
   have Hs:=(eV.toks t).trans (B.toks t) dH
   exact h ((nF,aO)::xq) ((k,aO)::bO) jX jC (Hs.trans bQ gp) fh ⟨C0,rfl,c⟩ (.cons ⟨rfl,bQ.m7 gp e7⟩ a)
theorem Rf (ok:D.Ok) (B:bz D φ J C s):bz D φ J C {s with heap:=s.heap.push {cls:=.type "dict",data:=.dict #[]}}/\eV D φ C s φ C {s with heap:=s.heap.push {cls:=.type "dict",data:=.dict #[]}}:=by
 have k:∀b o,s.heap.get? b=some o->(s.heap.push {cls:=.type "dict",data:=.dict #[]}).get? b=some o:=λb o e=>mF _ e
 exact⟨B.ext k s.toks ok,.ext k s.toks⟩
theorem WO (B:bz D φ J C s) (ok:D.Ok):(∀r,φ r≠some s.heap.objs.size)/\s.heap.objs.size∉D.fr/\D.jy.get? s.heap.objs.size=none:=by
 refine⟨λr e=>?_,λe=>?_,?_⟩
 .obtain⟨_,_,o,ff,_⟩:=B.own r _ e;rw[nH]at ff;nomatch ff
 .obtain⟨o,ff,_⟩:=B.ny _ e;rw[nH]at ff;nomatch ff
 .cases q:D.jy.get? s.heap.objs.size with
  |none=>rfl
  |some o=>have:=B.keep _ _ q;rw[nH]at this;nomatch this
theorem Rq {K:Type} [DecidableEq K] {knd:KeyKind c3 D.w K} {dm:List K} {ao:List Expr} {mk:List (K×I)->cw} (ok:D.Ok) (A:dS (λbq k=>∃e,bq=some e/\qO D knd e k) o5 dm)
  (sM:∀φ h a bO l,h.DictOf knd a bO->dS (i_ φ h) bO l->nk D.w φ h a (mk l)) (gD:dm.length=ao.length) (oB:dm.Nodup) (hz:dm.length<=15) (bJ:qL D J ao C aa aT) (w5:aa.length=ao.length):
  dW D (.Dict o5 ao pos) J C (Is (.ref (aT.k::D.p)) ⟨aT.h.set (aT.k::D.p) (mk (dm.zip aa)),aT.k+1⟩):=λφ s B=>by
 obtain⟨xA,L1⟩:=Rf ok B
 obtain⟨bh,bP,dF⟩:=WO B ok
 have oS:(s.heap.push {cls:=.type "dict",data:=.dict #[]}).get? s.heap.objs.size=some {cls:=.type "dict",data:=.dict #[]}:=nc _ rfl
 have fin:∀{b3:dG} {br:Shared} {bO:List (K×Value)} {bH:Heap} {t:Nat},eV D φ C {s with heap:=s.heap.push {cls:=.type "dict",data:=.dict #[]}} b3 aT br->bz D b3 J aT br->dS (i_ b3 br.heap) bO (dm.zip aa)->bH.DictOf knd s.heap.objs.size (merged [] bO)->Heap.SameBut s.heap.objs.size br.heap bH->
   d6 aZ D J φ C s (Is (.ref (aT.k::D.p)) ⟨aT.h.set (aT.k::D.p) (mk (dm.zip aa)),aT.k+1⟩) (.ref s.heap.objs.size) {br with heap:=bH,toks:=t}:=λ{b3 br bO bH t} dH bQ a hd aR=>by
  have bI:(bO.map (·.1)).Nodup:=by
   rw[JP a,List.map_fst_zip (by rw[w5,gD];exact fu _)];exact oB
  rw[merged_nil_of_nodup _ bI]at hd
  obtain⟨gM,wY,yF⟩:=Heap.dictOf_iff.mp hd
  obtain⟨Ro,jo,bE,u7,_⟩:=yF
  refine U' ok B (L1.trans xA dH) bQ (nH _) (λr e=>?_) bP dF (dH.keep _ _ oS bh bP) rfl aR wY (by unfold f7;rw[u7]) λim=>sM _ _ _ _ _ hd (a.mono λU U y=>⟨y.1,y.2.mono (λU U e=>e) im⟩)
  rcases dH.new r _ e with z|⟨z,_⟩
  .exact bh r z
  .rw[oS]at z;nomatch z
 induction A with
 |nil=>
  induction ao with
  |cons _ _=>simp at gD
  |nil=>
   obtain⟨rfl,rfl⟩:=bJ
   refine wpAny_Dict_empty ?_
   exact fin (br:={s with heap:=s.heap.push {cls:=.type "dict",data:=.dict #[]}}) .refl xA .nil (Heap.DictOf.new _) (OY _ _)
 |@cons bq k o5 dm bI CZ=>
  have aI:=dS.len (dS.cons bI CZ)
  refine wpAny_Dict_walk ?_ (by rw[aI,gD]) (by simp) (by rw[aI];exact hz) (Ve ok (.cons bI CZ) gD bJ xA λxq bO b3 br dH bQ c a=>⟨bO,c,?_,λbH hd aR=>fin dH bQ a hd aR⟩)
  .have:∀{l:List (Option Expr)} {m:List K},dS (λbq k=>∃e,bq=some e/\qO D knd e k) l m->l.all (·.isSome)=true:=λh=>by
    induction h with
    |nil=>rfl
    |cons r _ ih=>obtain⟨e,rfl,_⟩:=r;simpa using ih
   exact this (.cons bI CZ)
  .have:=Heap.DictOf.new (knd:=knd) s.heap
   obtain⟨o,Ro,jo,bw,r⟩:=this
   exact⟨o,Ro,jo,by rw[oS]at bw;nomatch bw;exact dH.keep _ _ oS bh bP,r⟩
end
theorem K9 (f:(Option (Sem Value)×Sem Value)->(Option Addr×List (Sem Value×Sem Value))->Sem (ForInStep (Option Addr×List (Sem Value×Sem Value)))) (main)
  (bD:∀p run,run.length+1<17->f (some p.1,p.2) (main,run)=pure (.yield (main,run++[p]))) (iL):
  ∀l run,run.length+l.length<17->forIn ((l.map λp=>(some p.1,p.2))++iL) (main,run) f=forIn iL (main,run++l) f
 |[],run,_=>by simp
 |p::jT,run,h=>by
  simp only[List.length_cons]at h
  rw[nN,List.cons_append,Jh,bD p run (by omega),pure_bind]
  have:=K9 f main bD iL jT (run++[p]) (by simp;omega)
  simpa using this
theorem adS (f:(Option (Sem Value)×Sem Value)->(Option Addr×List (Sem Value×Sem Value))->Sem (ForInStep (Option Addr×List (Sem Value×Sem Value)))) (main)
  (bD:∀p run,run.length+1<17->f (some p.1,p.2) (main,run)=pure (.yield (main,run++[p]))) (l) (h:l.length<17):
  forIn (l.map λp=>(some p.1,p.2)) (main,([]:List (Sem Value×Sem Value))) f=pure (main,l):=by
 have:=K9 f main bD [] l [] (by simpa using h)
 simpa using this
theorem abR (x6 Ag) (x) (az:x6.length=16) (aE:Ag.length=8):
  dictDisplay ((x6++x::Ag).map λp=>(some p.1,p.2))=(do
   let d <-subDict (x6++[x])
   let e <-holding [.ref d] (subDict Ag)
   (holding [.ref d,.ref e] (mergeMapping d (.ref e) false)).onRaise λx=>do let _ <-holding [.ref d,x] (runValue (.builtin "proto.let_go" {}))
   pure (.ref d)):=by
 unfold dictDisplay
 dsimp only
 rw[qd,nN]
 rw[K9 _ none (λp run h=>by
  have fJ:((run++[(p.1,p.2)]).length==17)=false:=by simp;omega
  simp only[fJ,nL,xN]) _ x6 [] (by simp;omega)]
 rw[Jh]
 have ab1:((x6++[(x.1,x.2)]).length==17)=true:=by simp;omega
 have ne:(x6++[(x.1,x.2)]).isEmpty=false:=by simp
 have aiY:Ag.isEmpty=false:=by induction Ag with|nil=>simp at aE|cons _ _=>rfl
 simp only[List.nil_append,ab1,ne,jW,nL,xN,bind_assoc,pure_bind]
 refine cJ (λz=>subDict (x6++[x])>>=z) (funext λd=>?_)
 rw[adS _ (some d) (λp run h=>by
  have fJ:((run++[(p.1,p.2)]).length==17)=false:=by simp;omega
  simp only[fJ,nL,xN]) Ag (by omega)]
 simp only[pure_bind,aiY,nL,xN,bind_assoc]
section
variable {D:dU} {K:Type} [DecidableEq K] {knd:KeyKind c3 D.w K} {E:Value->Shared->Prop}
theorem DictOf.k {h:Heap} {P:Prop} (x:h.DictOf knd a bO) (k:∀o ao jo,h.get? a=some o->o.ExactDict->o.data=.dict ao jo->KeysOf knd ao->Pairs knd ao.toList bO->(bO.map (·.1)).Nodup->P):P:=
 x.elim λo x=>x.elim λao x=>x.elim λjo x=>k o ao jo x.1 x.2.1 x.2.2.1 x.2.2.2.1 x.2.2.2.2.1 x.2.2.2.2.2
theorem alk {d:Addr} {key v:Value} (CY:knd.is k key=true) (bM:s.heap.DictOf knd d bO) (bD:k∉bO.map (·.1)) (hz:bO.length<=sizeLine)
  (fm:∀bH,bH.DictOf knd d (bO++[(k,v)])->Heap.SameBut d s.heap bH->Q () {s with heap:=bH}):wpAny (model c3 D.w) A (dictPut d (knd.hash k) key v) Q E s:=by
 refine DictOf.k bM λo ao jo bw aN hd bI cA bG=>?_
 have rR:ao.size<=sizeLine:=by
  have bk:=cA.length
  have bK:ao.toList.length=ao.size:=by simp
  omega
 have aeo:(ao.findIdx? λe=>knd.is k e.key)=bO.findIdx? λnF=>decide (nF.1=k):=by
  rw[<-cA.findIdx k];obtain⟨l⟩:=ao;simp
 have aez:(bO.findIdx? λnF=>decide (nF.1=k))=none:=by
  rw[List.findIdx?_eq_none_iff]
  intro nF C0
  exact qc λz=>bD (List.mem_map.mpr ⟨nF,C0,z⟩)
 unfold dictPut
 refine eP (wpAny_dictFind_of CY bw hd bI ?_)
 rw[aeo,aez]
 refine wpAny_updateDictKeys (hz:=rR) bw hd (fm _ ⟨_,_,jo+1,Jo _ bw (Obj.isFreed_of_dict (Obj.data_mapDictKeys hd _)),aN.mapDictKeys _,Obj.data_mapDictKeys hd _,bI.push CY _,?_,?_⟩ (OT ..))
 .have:=cA.append CY (knd.hash k) v
  obtain⟨l⟩:=ao
  simpa using this
 .rw[qd,Ja]
  refine⟨bG,by simp,λa aY b aP=>?_⟩
  simp only[nN,List.map_nil,List.mem_singleton]at aP
  subst aP
  exactλe=>bD (e▸aY)
noncomputable def Ux (d a:Addr) (aci:Nat) (i:Nat) (r:PUnit):Sem (ForInStep PUnit):=do
 let ao <-dictEntries a
 match ao[i]? with
 |some e=>do
  holding [e.key,e.val] (dictPut d e.hash e.key e.val)
  let jo <-dictEpoch a
  if(jo != aci)=true then do unsupported "dict.changed-during-merge";pure (ForInStep.yield PUnit.unit)else pure (ForInStep.yield PUnit.unit)
 |_=>do unsupported "dict.changed-during-merge";pure (ForInStep.yield PUnit.unit)
noncomputable def aio (d a:Addr):Sem Unit:=do
 let ao <-dictEntries a
 let jo <-dictEpoch a
 let _ <-forIn (List.range ao.size) PUnit.unit (Ux d a jo)
 pure PUnit.unit
theorem ah6 {Q:Unit->Shared->Prop} (Lr:(o==sysModules)=false) (Ls:s.heap.get? d=some DC) (u7:DC.data=.dict Gf ach) (Lm:Gf.isEmpty=false) (bw:s.heap.DictOf knd o iL)
  (h:wpAny (model c3 D.w) A (aio d o) Q E s):wpAny (model c3 D.w) A (mergeMapping d (.ref o) false) Q E s:=by
 unfold mergeMapping
 refine eP (wpAny_isInstance bw.typeIs isSubtype_dict_dict ?_)
 rw[bT rfl]
 refine eP (wpAny_specialOf bw.typeIs F.slot_dict_iter.lookup ?_)
 refine eP (jJ ?_)
 rw[qE]
 show wpAny _ _ (if(o==sysModules)=true then _ else _) _ _ _
 rw[bX (by rw[Lr];exact xP)]
 refine eP (OZ Ls u7 ?_)
 rw[bX (by rw[Lm];exact xP)]
 exact h
structure Jy (knd:KeyKind c3 D.w K) (d o:Addr) (s9:Obj) (n:Nat) (bO iL:List (K×Value)) (s:Shared) (i:Nat) (bH:Heap):Prop where
 le:i<=n
 dict:bH.DictOf knd d (bO++iL.take i)
 at_:bH.get? o=some s9
 same:Heap.SameBut d s.heap bH
theorem acg (cA:Pairs knd ao.toList iL) (bI:KeysOf knd ao) (iY:i<ao.size) {P:Prop} (k:∀q:K×Value,iL[i]?=some q->knd.is q.1 ao[i].key=true->ao[i].hash=knd.hash q.1->ao[i].val=q.2->P):P:=by
 have Sj:i<iL.length:=by rw[<-cA.length,Array.length_toList];exact iY
 have z:=cA.get? (e:=ao[i]) (by rw[vP,Array.getElem?_eq_getElem iY]) (h7 Sj)
 exact(bI ao[i] (Array.getElem_mem iY)).elim λj0 y=>k iL[i] (h7 Sj) z.1 (knd.inj _ _ _ y.1 z.1▸y.2) z.2
theorem alr {P:Prop} (aQ:x::jT=List.range' i (n -i)) (k:i<n->x=i->jT=List.range' (i+1) (n -(i+1))->P):P:=by
 rcases Nat.lt_or_ge i n with h|h
 .rw[show n -i=(n -(i+1))+1 from(Nat.succ_pred_eq_of_pos (Nat.sub_pos_of_lt h)).symm,List.range'_succ]at aQ
  exact k h (vS aQ).1 (vS aQ).2
 .rw[Nat.sub_eq_zero_of_le h]at aQ;cases aQ
section
variable {s9:Obj}
theorem aip (AN:s9.data=.dict ou Rk) (GI:Pairs knd ou.toList iL) (Lp:KeysOf knd ou) (Ll:d≠o) (oB:((bO++iL).map (·.1)).Nodup) (hz:bO.length+iL.length<=sizeLine) (iY:i<ou.size) (M:Jy knd d o s9 ou.size bO iL s i bH)
  {R:ForInStep PUnit->Shared->Prop} (k:∀u0,Jy knd d o s9 ou.size bO iL s (i+1) u0->R (.yield PUnit.unit) {s with heap:=u0}):wpAny (model c3 D.w) A (Ux d o Rk i PUnit.unit) R E {s with heap:=bH}:=
 eP (OZ M.at_ AN (acg GI Lp iY λq Z CY aen aeQ=>by
  have bY:iL.take (i+1)=iL.take i++[q]:=by rw[EE,Z];rfl
  have u9:q.1∉(bO++iL.take i).map (·.1):=λbM=>by
   have az:((bO++iL.take (i+1)).map (·.1)).Nodup:=oB.sublist (((List.Sublist.refl _).append (List.take_sublist _ _)).map _)
   rw[bY,<-nM,qd,Ja]at az
   exact az.2.2 _ bM _ jH rfl
  rw[Array.getElem?_eq_getElem iY]
  show wpAny _ _ (holding [ou[i].key,ou[i].val] (dictPut d ou[i].hash ou[i].key ou[i].val)>>=_) _ _ _
  rw[aen,aeQ]
  refine eP (qF (alk (s:={s with heap:=bH}) CY M.dict u9 (by rw[gO,BY];exact d5 (uA (Nat.min_le_right _ _) _) hz) λu0 aei Sm=>?_))
  have bw:=(Sm.2 o (Ne.symm Ll)).trans M.at_
  refine eP (wpAny_dictEpoch bw AN ?_)
  rw[bne_self_eq_false,bX xP]
  exact jJ (k u0 ⟨iY,(bY.symm▸(nM ..▸aei:u0.DictOf knd d (bO++(iL.take i++[q]))):_),bw,M.same.trans Sm⟩)))
theorem ah7 {Q:Unit->Shared->Prop} (Ll:d≠o) (Lr:(o==sysModules)=false) (fJ:bO≠[])
  (hd:s.heap.DictOf knd d bO) (bw:s.heap.DictOf knd o iL) (oB:((bO++iL).map (·.1)).Nodup) (hz:bO.length+iL.length<=sizeLine)
  (fm:∀bH,bH.DictOf knd d (bO++iL)->Heap.SameBut d s.heap bH->Q () {s with heap:=bH}):wpAny (model c3 D.w) A (mergeMapping d (.ref o) false) Q E s:=
 DictOf.k hd λDC Gf ach Ls aps u7 apu Lw apv=>DictOf.k bw λs9 ou Rk Lv CX AN Lp GI apw=>by
  have Lm:Gf.isEmpty=false:=by
   cases h:Gf.isEmpty with
   |false=>rfl
   |true=>
    have:=Lw.length;rw[Array.isEmpty_iff.mp h]at this
    exact absurd (List.length_eq_zero_iff.mp this.symm) fJ
  refine ah6 Lr Ls u7 Lm bw (eP (OZ Lv AN (eP (wpAny_dictEpoch Lv AN (eP ?_)))))
  rw[List.range_eq_range']
  refine wpAny_forIn_list _ (λjT U bW=>∀P:Prop,(∀bH i,bW={s with heap:=bH}->jT=List.range' i (ou.size -i)->Jy knd d o s9 ou.size bO iL s i bH->P)->P) _
   (λx jT b bW p=>p _ λbH i ao aQ M=>alr aQ λiY bE aeF=>ao▸bE▸aip AN GI Lp Ll oB hz iY M λu0 oP=>λP k=>k u0 (i+1) rfl aeF oP)
   (λb bW p=>p _ λbH i ao aQ M=>ao▸jJ (fm bH ?_ M.same)) _ _ λP k=>k s.heap 0 rfl rfl ⟨lY _,(vR _).symm▸hd,Lv,OY _ _⟩
  have iR:i=ou.size:=Nat.le_antisymm M.le (Nat.not_lt.mp λh=>by
   rw[show ou.size -i=(ou.size -(i+1))+1 from(Nat.succ_pred_eq_of_pos (Nat.sub_pos_of_lt h)).symm,List.range'_succ]at aQ;cases aQ)
  have gD:iL.length=ou.size:=GI.length.symm
  have:=M.dict
  rw[iR,<-gD,Jc]at this;exact this
end
theorem amK (gD:15<pairs.length)
  (h:wpAny (model c3 D.w) A (forIn pairs PUnit.unit λ(x:Sem Value×Sem Value) (_:PUnit)=>(do
    let nF <-x.1
    let Et <-holding [nF] x.2
    holding [nF,Et] (dictSet s.heap.objs.size nF Et)
    pure (ForInStep.yield PUnit.unit):Sem (ForInStep PUnit))) (λU bW=>Q s.heap.objs.size bW) E {s with heap:=s.heap.push {cls:=.type "dict",data:=.dict #[]}}):
  wpAny (model c3 D.w) A (subDict pairs) Q E s:=by
 unfold subDict
 refine eP (wpAny_alloc ?_)
 refine eP (qF ?_)
 rw[bX (by omega)]
 refine eP (wpAny_rule ?_)
 refine eP (gi h (λU bW bH=>jJ (jJ bH)) λU U e=>e)
structure nP (D:dU) (knd:KeyKind c3 D.w K) (J:aL) (jK:dG) (j5:bL) (eX:Shared) (d:Addr) (φ:dG) (C:bL) (s:Shared) (bO:List (K×Value)) (l:List (K×I)):Prop where
 le:eV D jK j5 eX φ C s
 B:bz D φ J C s
 p0:∀r,φ r≠some d
 at_:s.heap.DictOf knd d bO
 vals:dS (i_ φ s.heap) bO l
 HE:eX.heap.get? d=none
 fr:d∉D.fr
 base:D.jy.get? d=none
theorem nP.new (ok:D.Ok) (B:bz D φ J C s):nP D knd J φ C s s.heap.objs.size φ C {s with heap:=s.heap.push {cls:=.type "dict",data:=.dict #[]}} [] []:=by
 refine iu λaH ez=>?_
 obtain⟨xA,L1⟩:=Rf ok B
 obtain⟨bh,bP,dF⟩:=WO B ok
 refine ez ?_
 exact⟨L1,xA,bh,Heap.DictOf.new _,.nil,nH _,bP,dF⟩
theorem nP.obj (b4:nP D knd J jK j5 eX d φ C s bO l):∃o,s.heap.get? d=some o/\f7 o=false:=by
 refine iu λaH ez=>?_
 obtain⟨o,ao,jo,bw,aN,hd,_⟩:=b4.at_
 refine ez ?_
 exact⟨o,bw,by unfold f7;rw[hd]⟩
theorem nP.go (b4:nP D knd J jK j5 eX d φ C s bO l) (le:eV D φ C s b3 aG br) (B:bz D b3 J aG br):nP D knd J jK j5 eX d b3 aG br bO l:=by
 refine iu λaH ez=>?_
 obtain⟨o,ao,jo,bw,r⟩:=b4.at_
 refine ez ?_
 refine⟨b4.le.trans b4.B le,B,λr e=>?_,⟨o,ao,jo,le.keep _ _ bw b4.p0 b4.fr,r⟩,b4.vals.mono λU U y=>⟨y.1,b4.B.m7 le y.2⟩,b4.HE,b4.fr,b4.base⟩
 rcases le.new r _ e with z|⟨z,_⟩
 .exact b4.p0 r z
 .rw[bw]at z;nomatch z
theorem nP.put (ok:D.Ok) (b4:nP D knd J jK j5 eX d φ C s bO l) (aR:Heap.SameBut d s.heap bH) (hd:bH.DictOf knd d AY) (bJ:dS (i_ φ s.heap) AY fX) (t):nP D knd J jK j5 eX d φ C {s with heap:=bH,toks:=t} AY fX:=by
 obtain⟨o,bw,rT⟩:=b4.obj
 have im:∀b o,s.heap.get? b=some o->f7 o=true->bH.get? b=some o:=λb o e i=>aR.extBut b o (λq=>by rw[q,bw]at e;nomatch e;rw[rT]at i;nomatch i) e
 refine⟨⟨b4.le.map,λb o e n q=>?_,b4.le.new,b4.le.au⟩,b4.B.Gz (λb o e z=>?_) t ok,b4.p0,hd,bJ.mono λU U y=>⟨y.1,y.2.mono (λU U e=>e) im⟩,b4.HE,b4.fr,b4.base⟩
 .exact aR.extBut b o (λz=>by rw[z,b4.HE]at e;nomatch e) (b4.le.keep b o e n q)
 .by_cases q:b=d
  .subst q
   rcases z with⟨_,z⟩|z|⟨r,z⟩|z
   .rw[b4.base]at z;nomatch z
   .exact absurd z b4.fr
   .exact absurd z (b4.p0 r)
   .exact im _ _ e z
  .exact aR.extBut b o q e
theorem aht (ok:D.Ok) (A:dS (λbq k=>∃e,bq=some e/\qO D knd e k) o5 dm):
  ∀{ao:List Expr} {aa:List I} {C:bL} {φ:dG} {s:Shared} {bO:List (K×Value)} {l:List (K×I)},dm.length=ao.length->qL D J ao C aa aT->nP D knd J jK j5 eX d φ C s bO l->(bO.map (·.1)++dm).Nodup->bO.length+dm.length<=sizeLine->
  ∀{Q:PUnit->Shared->Prop},(∀AY b3 br,nP D knd J jK j5 eX d b3 aT br AY (l++dm.zip aa)->Q PUnit.unit br)->wpAny (cX D) D.A (forIn (pairTrees o5 ao D.env pos) PUnit.unit λ(x:Sem Value×Sem Value) (_:PUnit)=>(do
    let nF <-x.1
    let Et <-holding [nF] x.2
    holding [nF,Et] (dictSet d nF Et)
    pure (ForInStep.yield PUnit.unit):Sem (ForInStep PUnit))) Q dR s:=by
 induction A with
 |nil=>
  intro ao aa C φ s bO l gD bJ b4 oB hz Q h
  induction ao with
  |nil=>
   obtain⟨rfl,rfl⟩:=bJ
   show wpAny _ _ (forIn [] _ _) _ _ _
   rw[List.forIn_nil]
   exact jJ (h bO φ s (by simpa using b4))
  |cons _ _=>simp at gD
 |@cons bq k o5 dm bI CZ ih=>
  intro ao aa C φ s bO l gD bJ b4 oB hz Q h
  cases ao with
  |nil=>simp at gD
  |cons e ao=>
   obtain⟨v,aG,b5,rfl,cK,rR⟩:=bJ
   obtain⟨bq,rfl,bI⟩:=bI
   show wpAny _ _ (forIn ((eval bq D.env,do let x <-eval e D.env;standAt pos;pure x)::pairTrees o5 ao D.env pos) _ _) _ _ _
   rw[Jh]
   refine eP (eP (bI s _ λnF t C0=>?_))
   refine eP (qF (eP ?_))
   refine mL.step cK (b4.B.toks t) λaO fU b3 br Xz e7 bQ dH g_=>?_
   obtain⟨rfl,rfl⟩:=g_
   refine eP (BQ (jJ ?_))
   have tK:=(b4.go (eV.toks t) (b4.B.toks t)).go dH bQ
   have bk:bO.length<=sizeLine:=by simp only[List.length_cons]at hz;omega
   have u9:¬(bO.any λx=>decide (x.1=k))=true:=by
    rw[List.any_eq_true];rintro ⟨x,bE,cK⟩
    rw[Ja]at oB
    exact oB.2.2 x.1 (List.mem_map.mpr ⟨x,bE,rfl⟩) k jH (kJ cK)
   refine eP (qF (wpAny_dictSet_pairs (hsz:=bk) C0 tK.at_ λbH oA qm=>jJ ?_))
   rw[stored,bX u9]at oA
   have B6:=tK.put ok qm oA (tK.vals.append (.cons (b:=(k,fU)) ⟨rfl,e7⟩ .nil)) (br.toks+1)
   refine ih (by simpa using gD) rR B6 (by simpa using oB) (by simp only[gO,List.length_cons,List.length_nil]at hz ⊢;omega) λAY jX jC Xl=>h AY jX jC ?_
   simpa using Xl
theorem akT:∀{a:List (Option Expr)} {ao:List Expr},a.all (·.isSome)=true->a.length=ao.length->pairTrees (a++b) (ao++Gq) env pos=pairTrees a ao env pos++pairTrees b Gq env pos:=by
 intro a
 induction a with
 |nil=>intro ao _ h;induction ao with
  |nil=>rfl
  |cons _ _=>cases h
 |cons k a ih=>intro ao h aI;cases ao with
  |nil=>cases aI
  |cons e ao=>
   have h:=Bool.and_eq_true_iff.mp ((List.all_cons ..).symm.trans h)
   induction k with
   |none=>exact lP h.1
   |some k=>exact cJ (_::·) (ih h.2 (BU aI))
theorem ab6:∀{a:List Expr} {C:bL} {aa:List I} {P:List I->Prop},qL D J (a++b) C aa aT->(∀tC aG uv,tC.length=a.length->qL D J a C tC aG->qL D J b aG uv aT->P (tC++uv))->P aa:=by
 intro a
 induction a with
 |nil=>exactλ{C aa P} h k=>k [] C aa rfl ⟨rfl,rfl⟩ h
 |cons e a ih=>exactλ{C aa P} h k=>h.elim λv h=>h.elim λaG h=>h.elim λb5 z=>z.1▸ih (P:=λb5=>P (v::b5)) z.2.2 λtC fE uv az aE b8=>k (v::tC) fE uv (cJ Nat.succ az) ⟨v,aG,tC,rfl,z.2.1,aE⟩ b8
theorem XX {R:b9->ef->Prop}:∀{jj:List ef} {l:List b9} {P:List b9->Prop},dS R l (jj++iB)->(∀mS q4,dS R mS jj->dS R q4 iB->P (mS++q4))->P l:=by
 intro jj
 induction jj with
 |nil=>exactλ{l P} h k=>k [] l .nil h
 |cons b m ih=>exactλ{l P} h k=>by cases h with|@cons a _ l _ r h=>exact ih (P:=λl=>P (a::l)) h λmS q4 az aE=>k (a::mS) q4 (.cons r az) aE
theorem jd {l:List b9} {P:List b9->Prop} (h:l.length=a+b) (k:∀x y,x.length=a->y.length=b->P (x++y)):P l:=
 EU a l▸k _ _ (by rw[BY,h];exact Nat.min_eq_left (gQ _ _)) (by rw[Jd,h];exact OJ ..)
theorem abQ (az:Cd.length=17) (aE:qQ.length=8):
  dictDisplay ((Cd++qQ).map λp=>(some p.1,p.2))=(do
   let d <-subDict Cd
   let e <-holding [.ref d] (subDict qQ)
   (holding [.ref d,.ref e] (mergeMapping d (.ref e) false)).onRaise λx=>do let _ <-holding [.ref d,x] (runValue (.builtin "proto.let_go" {}))
   pure (.ref d)):=
 jd (a:=16) (b:=1) (P:=λCd=>dictDisplay ((Cd++qQ).map λp=>(some p.1,p.2))=(do
   let d <-subDict Cd
   let e <-holding [.ref d] (subDict qQ)
   (holding [.ref d,.ref e] (mergeMapping d (.ref e) false)).onRaise λx=>do let _ <-holding [.ref d,x] (runValue (.builtin "proto.let_go" {}))
   pure (.ref d))) az λx y bE cM=>by
  cases y with
  |nil=>cases cM
  |cons y r=>induction r with
   |nil=>rw[nM];exact abR x qQ y bE aE
   |cons _ _=>cases cM
theorem Pr {l:List (Option Expr)} (h:dS (λbq k=>∃e,bq=some e/\qO D knd e k) l m):l.all (·.isSome)=true:=by
 induction h with
 |nil=>rfl
 |cons r _ ih=>obtain⟨e,rfl,_⟩:=r;simpa using ih
theorem nP.fin {d:Addr} {mk:List (K×I)->cw} (ok:D.Ok) (B:bz D φ J C s) (sM:∀φ h a bO l,h.DictOf knd a bO->dS (i_ φ h) bO l->nk D.w φ h a (mk l)) (b4:nP D knd J φ C s d b3 aG br bO l):
  d6 aZ D J φ C s (Is (.ref (aG.k::D.p)) ⟨aG.h.set (aG.k::D.p) (mk l),aG.k+1⟩) (.ref d) br:=
 DictOf.k b4.at_ λo ao jo bw U hd U U U=>
  have aj:f7 o=false:=by unfold f7;rw[hd]
  U' (g:=br.heap) (t:=br.toks) ok B b4.le b4.B b4.HE b4.p0 b4.fr b4.base bw aj (OY _ _) bw aj λU=>sM _ _ _ _ _ b4.at_ b4.vals
theorem acT {mk:List (K×I)->cw} (ok:D.Ok) (z6:dS (λbq k=>∃e,bq=some e/\qO D knd e k) ah g6) (z7:dS (λbq k=>∃e,bq=some e/\qO D knd e k) aB gK)
  (sM:∀φ h a bO l,h.DictOf knd a bO->dS (i_ φ h) bO l->nk D.w φ h a (mk l)) (kD:g6.length=17) (mW:gK.length=8) (jj:bk.length=17) (iB:bK.length=8) (oB:(g6++gK).Nodup) (aeO:qL D J bk C tC aG) (aeP:qL D J bK aG uv aT) (G1:tC.length=17) (agD:uv.length=8)
  (Ly:∀φ C s o,bz D φ J C s->s.heap.get? o=none->(o==sysModules)=false):
  dW D (.Dict (ah++aB) (bk++bK) pos) J C (Is (.ref (aT.k::D.p)) ⟨aT.h.set (aT.k::D.p) (mk ((g6++gK).zip (tC++uv))),aT.k+1⟩):=λφ s B=>by
 have pB:=Pr z6
 have s2:=Pr z7
 have kF:ah.length=bk.length:=(z6.len.trans kD).trans jj.symm
 have i6:aB.length=bK.length:=(z7.len.trans mW).trans iB.symm
 have fC:=(pairTrees_length ah bk D.env pos pB kF).trans (z6.len.trans kD)
 have b6:=(pairTrees_length aB bK D.env pos s2 i6).trans (z7.len.trans mW)
 rw[arm_eval_Dict,zip_pairTrees _ _ _ _ (by rw[List.all_append,pB,s2];rfl) (by rw[gO,gO,kF,i6]),akT pB kF,abQ fC b6,List.zip_append (kD.trans G1.symm)]
 have p0:=List.nodup_append.mp oB
 refine eP (BQ (eP (amK (by rw[fC];decide) (aht ok z6 (kD.trans jj.symm) aeO (nP.new (knd:=knd) ok B) p0.1 (by rw[kD,qI,List.length_nil];decide) λTe b3 br tK=>eP (qF ?_)))))
 refine wpAny_subDict (knd:=knd) (by rw[b6];decide) (Ve ok z7 (mW.trans iB.symm) aeP (nP.new (knd:=knd) ok tK.B).B λxq L0 jX jC gp fh c a=>?_)
 have E3:=(nP.new (knd:=knd) ok tK.B).go gp fh
 have nI:Te.map (·.1)=g6:=(JP tK.vals).trans (List.map_fst_zip (ng (kD.trans G1.symm)))
 have iM:L0.map (·.1)=gK:=(JP a).trans (List.map_fst_zip (ng (mW.trans agD.symm)))
 refine⟨L0,c,E3.at_,λbH bM aR=>?_⟩
 rw[merged_nil_of_nodup _ (iM▸p0.2.1)]at bM
 have Aa:=E3.put ok aR bM a (jC.toks+xq.length)
 have B6:=tK.go Aa.le Aa.B
 have fQ:Te.length=17:=(fD ..).symm.trans ((cJ List.length nI).trans kD)
 have iP:L0.length=8:=(fD ..).symm.trans ((cJ List.length iM).trans mW)
 exact eP (wpAny_onRaise (gi (qF (ah7 (E:=dR) (λz=>tK.obj.elim λo y=>oE ((cJ br.heap.get? z).trans (nH _)) y.1) (Ly _ _ _ _ tK.B (nH _)) (λz=>by rw[z]at fQ;cases fQ) B6.at_ Aa.at_ (by rw[qd,nI,iM];exact oB) (by rw[fQ,iP,qI];decide)
  (Q:=λU bW=>d6 aZ D J φ C s (Is (.ref (aT.k::D.p)) ⟨aT.h.set (aT.k::D.p) (mk (g6.zip tC++gK.zip uv)),aT.k+1⟩) (.ref s.heap.objs.size) bW) λaE yF Lx=>nP.fin ok B sM (B6.put ok Lx yF (B6.vals.append Aa.vals) (jC.toks+xq.length)))) (λU bW bH=>jJ bH) λU U e=>False.elim e))
theorem acC {dm:List K} {aa:List I} {mk:List (K×I)->cw} (ok:D.Ok) (A:dS (λbq k=>∃e,bq=some e/\qO D knd e k) o5 dm)
  (sM:∀φ h a bO l,h.DictOf knd a bO->dS (i_ φ h) bO l->nk D.w φ h a (mk l)) (gD:dm.length=ao.length) (oB:dm.Nodup) (hz:dm.length=25) (bJ:qL D J ao C aa aT) (w5:aa.length=ao.length) (Ly:∀φ C s o,bz D φ J C s->s.heap.get? o=none->(o==sysModules)=false):
  dW D (.Dict o5 ao pos) J C (Is (.ref (aT.k::D.p)) ⟨aT.h.set (aT.k::D.p) (mk (dm.zip aa)),aT.k+1⟩):=by
 revert A oB bJ
 refine jd (a:=17) (b:=8) (P:=λdm=>dS (λbq k=>∃e,bq=some e/\qO D knd e k) o5 dm->dm.Nodup->qL D J ao C aa aT->dW D (.Dict o5 ao pos) J C (Is (.ref (aT.k::D.p)) ⟨aT.h.set (aT.k::D.p) (mk (dm.zip aa)),aT.k+1⟩)) hz λg6 gK kD mW A oB=>?_
 refine jd (a:=17) (b:=8) (P:=λao=>qL D J ao C aa aT->dW D (.Dict o5 ao pos) J C (Is (.ref (aT.k::D.p)) ⟨aT.h.set (aT.k::D.p) (mk ((g6++gK).zip aa)),aT.k+1⟩)) (gD.symm.trans hz) λbk bK jj iB bJ=>?_
 refine XX (P:=λo5=>dW D (.Dict o5 (bk++bK) pos) J C (Is (.ref (aT.k::D.p)) ⟨aT.h.set (aT.k::D.p) (mk ((g6++gK).zip aa)),aT.k+1⟩)) A λah aB z6 z7=>?_
 have w5:aa.length=25:=w5.trans (gD.symm.trans hz)
 revert w5
 exact ab6 (P:=λaa=>aa.length=25->dW D (.Dict (ah++aB) (bk++bK) pos) J C (Is (.ref (aT.k::D.p)) ⟨aT.h.set (aT.k::D.p) (mk ((g6++gK).zip aa)),aT.k+1⟩)) bJ λtC aG uv mS az aE w5=>acT ok z6 z7 sM kD mW jj iB oB az aE (mS.trans jj) (by rw[gO,mS,jj]at w5;exact Nat.add_left_cancel (n:=17) (m:=uv.length) (k:=8) w5) Ly
end
section
variable {s br:Shared}
theorem MN (h:zf e=true) (x):foldedSetIterable e env x=pure x:=by
 nomatch e<;>first|rfl|nomatch h
theorem QG (ok:D.Ok) (dH:eV D φ C s b3 aG br) (bG:br.heap.get? aH=none) (l:eV D φ C s cg aT bW) (B:bz D cg cz aT bW) (lo:om D cg bW.heap aH) (k:∀b o,b≠aH->bW.heap.get? b=some o->g.get? b=some o) (t):
  bz D cg cz aT {bW with heap:=g,toks:=t}/\eV D φ C s cg aT {bW with heap:=g,toks:=t}:=
 ⟨lo.turn ok B k t,l.map,λb o e n q=>k b o (λz=>oE bG ((cJ br.heap.get? z).symm.trans (dH.keep b o e n q))) (l.keep b o e n q),l.new,l.au⟩
theorem om.apart (lo:om D φ s.heap aH) (e:s.heap.get? b=some o) (i:f7 o=true):b≠aH:=λz=>by
 obtain⟨gM,ff,qn⟩:=lo.at_
 have:=iH (e.symm.trans (z▸ff));rw[this,qn]at i;nomatch i
theorem acB (ok:D.Ok) (aN:yq eB D.env.scope x=true) (aR:zf iter=true) (aj:dW D iter J C (Is it aG)) (bk:jP it aG=some q)
  {gv:Expr->aL->aD Bool}
  (dj:∀di:dU,di.Ok->di.env.scope=kq eB D.env.scope->di.p=aG.k::D.p->di.lvl=D.lvl->
   (∀c cz aT b gf,ifs=[c]->gv c cz aT=some (b,gf)->ja di c cz aT (Is b gf))/\(∀cz aT v gf,ek cz aT=some (v,gf)->dW di kZ cz aT (Is v gf)))
  (e:rO (xE gv ifs) ek x it (0::aG.k::D.p) (wA eB J) 1000 0 ⟨aG.h.set (0::aG.k::D.p) (.list []),1⟩=some ((),l0)):
  dW D (.ListComp kZ [⟨.Name x mY,iter,ifs,0⟩] eB pos) J C (Is (.ref (0::aG.k::D.p)) ⟨l0.h,aG.k+1⟩):=λφ s B=>by
 refine iu λaH ez=>?_
 obtain⟨⟨⟨⟨fQ,iP⟩,pQ⟩,uR⟩,wz⟩:=KB aN
 obtain⟨jN,Lk,u6,CW⟩:=Qz λy m=>ok.cls y (by
  rcases(wz _ m rfl).2 with z|z
  .exact .inl z
  .exact .inr z)
 refine ez ?_
 rw[arm_eval_ListComp]
 refine wpAny_comprehension_free rfl (MN aR) Lk fQ uR ?_
 refine aj.kP B λaO b3 br e7 bQ dH=>?_
 refine gi (QM ok aN u6 CW bQ e7 bk dj e) (λNr jC p=>gi p (λeg qz p=>gi p (λFG zK p=>xS p λr Eb p=>?_) λU U z=>z) λU U z=>z) λU U z=>z
 induction p with|intro pr p=>induction p with|mk cg m bM le bU bV lo bG=>
 rw[pr]
 exact⟨m,bM,λbH wZ=>have k:=λb o n e=>wZ.extBut b o n e;have q:=QG ok dH bG (dH.trans bQ le) bU lo k Eb.toks;⟨_,cg,_,q.2,bV.mono (λU U e=>e) λb o e i=>k b o (lo.apart e i) e,q.1,rfl,rfl⟩⟩
end
def fe (D:dU) (J:aL) (e:Expr) (m:aD I):Prop:=∀C q,m C=some q->dW D e J C (Is q.1 q.2)
def j6 (D:dU) (J:aL) (e:Expr) (m:aD Bool):Prop:=∀C q,m C=some q->ja D e J C (Is q.1 q.2)
def x8 (D:dU) (J:aL) (ao:List Expr) (m:aD (List I)):Prop:=∀C q,m C=some q->uH D ao J C (Is q.1 q.2)/\(∀pos,(backTo pos (starEach ao D.env)).any (·.1)=false)/\qL D J ao C q.1 q.2/\q.1.length=ao.length
def Ch (D:dU) (J:aL) (e:Option Expr) (m:aD I):Prop:=∀C q,m C=some q->mL aZ D (evalPart e D.env) J C (Is q.1 q.2)
structure Ci (L:ay->Addr->List I->aD I) (n k):Prop where
 v:∀(D:dU) J (e:Expr),D.Ok->n+1<=D.lvl->fe D J e (eK L k D.env.scope D.p J e)
 t:∀(D:dU) J (e:Expr),D.Ok->n+1<=D.lvl->j6 D J e (gv L k D.env.scope D.p J e)
 l:∀(D:dU) J ao,D.Ok->n+1<=D.lvl->x8 D J ao (tX L k D.env.scope D.p J ao)
 o:∀(D:dU) J (e:Option Expr),D.Ok->n+1<=D.lvl->Ch D J e (Gh L k D.env.scope D.p J e)
section
theorem amV (ok:D.Ok) (B:bz D φ J C s):∃o,s.heap.get? sysModules=some o:=by
 have:((gR D.w.params).get? sysModules).any (λo=>!sR o)=true:=by
  have e:((wL D.w.params)[sysModules]?).any (λo=>!sR o)=true/\((wL D.w.params)[sysModules]?).any (λo=>o.isFreed)=false:=by constructor<;>kernel_rfl
  obtain⟨o,bw,_⟩:=HX e.1
  rw[bw]at e
  rw[Ld bw (by decide) e.2];exact e.1
 obtain⟨o,bw,aI⟩:=HX this
 exact⟨o,B.keep _ _ (ok.base _ _ bw (by simpa using aI))⟩
theorem WG (e:truth v C=some q):xD v=some q.1/\q.2=C:=by
 obtain⟨b,aP,rfl⟩:=Df e
 exact⟨aP,rfl⟩
theorem WE {P:Prop} (e:Y (truth v) f C=some q) (k:∀b,xD v=some b->f b C=some q->P):P:=pZ e k
theorem afs (h:jP v C=some q):q.2=C:=by
 cases v with
 |eo a b=>exact gE h λU h=>pA h rfl
 |tup xs=>exact pA h rfl
 |ref r=>exact o7 h λxs U h=>pA h rfl
 |_=>exact n5 (C:=C) h
theorem SO {P:Prop} (e:Y (jP v) f C=some q) (k:∀u,jP v C=some (u,C)->f u C=some q->P):P:=
 eS e λu aG aE bK=>by have:aG=C:=afs aE;subst this;exact k u aE bK
@[elab_as_elim] theorem amL {P:b9×bL->Prop} (e:sub p m C=some q) (k:∀v aT,m (C.k::p) ⟨C.h,0⟩=some (v,aT)->P (v,⟨aT.h,C.k+1⟩)):P q:=by
 unfold sub at e
 split at e
 .nomatch e;exact k _ _ ‹_›
 .nomatch e
theorem abO {P:Prop} (e:F9 p m ao a b C=some q) (afx:∀dm,b=some dm->Rc p m ao dm C=some q->P) (afy:∀dm,a=some dm->Rd p m ao dm C=some q->P):P:=by
 induction b with
 |some dm=>exact afx dm rfl (by nomatch a<;>exact e)
 |none=>induction a with
  |none=>nomatch e
  |some dm=>exact afy dm rfl e
theorem amJ:∀{dm:List Str},zI l=some dm->dS (λbq k=>∃e,bq=some e/\qO D (strKind c3 D.w) e k) l dm:=by
 induction l with
 |nil=>intro dm e;nomatch e;exact .nil
 |cons y l ih=>
  intro dm e
  obtain⟨⟨x,q⟩,_,e⟩:=Option.bind_eq_some_iff.mp e
  obtain⟨m,bM,rfl⟩:=Option.map_eq_some_iff.mp e
  induction q with|mk x a b=>exact .cons ⟨_,rfl,ags x a b⟩ (ih bM)
theorem SG:∀{dm:List Int},yP l=some dm->dS (λbq k=>∃e,bq=some e/\qO D (intKind c3 D.w) e k) l dm:=by
 induction l with
 |nil=>intro dm e;nomatch e;exact .nil
 |cons y l ih=>
  intro dm e
  obtain⟨⟨x,q⟩,_,e⟩:=Option.bind_eq_some_iff.mp e
  obtain⟨m,bM,rfl⟩:=Option.map_eq_some_iff.mp e
  induction q with|mk x a b=>exact .cons ⟨_,rfl,agr x a b⟩ (ih bM)
theorem abj (h:FL j7=some (x,it,ifs)):∃mY,j7=[⟨.Name x mY,it,ifs,0⟩]:=
 let⟨⟨_,p⟩,_,e⟩:=Option.map_eq_some_iff.mp h;by subst e;exact p
@[elab_as_elim] theorem QJ {eB sc:Scope} {p:ay} {P:I×bL->Prop} (h:QD KX Of ek eB sc p J (FL j7) C=some q)
  (k:∀x mY iter ifs it aG l0 u,yq eB sc x=true/\zf iter=true->KX iter C=some (it,aG)->jP it aG=some (u,aG)->j7=[⟨.Name x mY,iter,ifs,0⟩]->
   rO (xE (λc J=>Of (kq eB sc) (aG.k::p) J c) ifs) (λJ=>ek (aG.k::p) J) x it (0::aG.k::p) (wA eB J) 1000 0 ⟨aG.h.set (0::aG.k::p) (.list []),1⟩=some ((),l0)->P (.ref (0::aG.k::p),⟨l0.h,aG.k+1⟩)):P q:=by
 cases g5:FL j7 with
 |none=>rw[g5]at h;nomatch h
 |some r=>
  obtain⟨x,iter,ifs⟩:=r
  obtain⟨mY,yH⟩:=abj g5
  rw[g5]at h
  exact gE h λaN h=>eS h λit aG az h=>SO h λu aE h=>amL h λv aT aQ=>eS aQ λeg iO b8 aQ=>by
   nomatch b8
   exact eS aQ λU oO cH aQ=>by
    nomatch aQ
    rw[gI]at aN
    exact k x mY iter ifs it aG _ u aN az aE yH cH
section
variable {a b c e l r f o:Expr}
theorem tR {x y:aD b9} {r:b9×bL} (h:(if t then x else y) C=some r) (LZ:x C=some r->P) (agt:y C=some r->Q):(t=true->P)/\(t=false->Q):=by
 induction t with
 |true=>exact⟨λU=>LZ h,λz=>anZ z⟩
 |false=>exact⟨λz=>lP z,λU=>agt h⟩
theorem zD {b:ef} {r:ef×bL} {P:Prop} (h:ai b C=some r) (k:b=r.1/\C=r.2->P):P:=by cases h;exact k ⟨rfl,rfl⟩
theorem fe.bin (ok:D.Ok) (aI:fe D J l jR) (aQ:fe D J r dK):fe D J (.BinOp l eO r q) (Y jR λa=>Y dK λb=>fk D.p eO a b):=λC q h=>eS h λa aG az h=>eS h λb fE aE h=>acu ((aI _ _ az).mono (Is.go ((aQ _ _ aE).mono (Is.go (Z8 ok h)))))
theorem ai4 {r:I×bL} {P:I->Prop} (h:ML v C=some r) (k:∀i,ai (I.int (-i)) C=some r->P (.int i)):P v:=by
 cases v with
 |int i=>exact k i h
 |_=>exact fK h
theorem fe.neg (aI:fe D J e jR):fe D J (.UnaryOp .USub e q) (Y jR ML):=λC q h=>eS h λa aG az h=>acL ((aI _ _ az).mono (Is.go (ai4 (P:=λa=>∃i,a=.int i/\Is q.1 q.2 (.int (-i)) aG) h λi h=>⟨i,rfl,zD h id⟩)))
theorem fe.and (aY:fe D J a jR) (aP:fe D J b dK):fe D J (.BoolOp .And [a,b] q) (Y jR λv=>Y (truth v) λt=>if t then dK else ai v):=λC q h=>eS h λv aG az h=>WE h λb b8 h=>acr ((aY _ _ az).mono (Is.go ⟨b,b8,tR h (aP _ _) λh=>zD h id⟩))
theorem fe.or (aY:fe D J a jR) (aP:fe D J b dK):fe D J (.BoolOp .Or [a,b] q) (Y jR λv=>Y (truth v) λt=>if t then ai v else dK):=λC q h=>eS h λv aG az h=>WE h λb b8 h=>acO ((aY _ _ az).mono (Is.go ⟨b,b8,(tR h (λh=>zD h id) (aP _ _)).symm⟩))
theorem fe.GN (aN:j6 D J c vJ) (aY:fe D J a jR) (aP:fe D J b dK):fe D J (.IfExp c a b q) (Y vJ λt=>if t then jR else dK):=λC q h=>eS h λt aG az h=>acF ((aN _ _ az).mono (Is.go (tR h (aY _ _) (aP _ _))))
theorem fe.cmp (ok:D.Ok) (aI:fe D J l jR) (aQ:fe D J r dK):fe D J (.Compare l [eO] [r] q) (if behindInMarks eO r then no else Y jR λa=>Y dK λb=>Y (dX eO a b) λt=>ai (.bool t)):=λC q h=>
 Dw h λbM h=>eS h λa aG az h=>eS h λb fE aE h=>eS h λt iO b8 h=>pA h (acA (Bool.eq_false_iff.mpr bM) ((aI _ _ az).mono (Is.go ((aQ _ _ aE).mono (Is.go λφ s dZ eA B r bV=>Cz ok b8 B r bV λb3 br dH bQ=>⟨_,b3,_,dH,rfl,bQ,rfl,rfl⟩)))))
theorem fe.uU (ok:D.Ok) (aI:fe D J l jR) (aQ:fe D J r dK) (aN:fe D J c Dr):fe D J (.Compare l [eO,oH] [r,c] q) (if behindInMarks eO r || behindInMarks oH c then no else Y jR λa=>Y dK λb=>Y (dX eO a b) λt=>
  if t then Y Dr λc=>Y (dX oH b c) λt=>ai (.bool t)else ai (.bool false)):=λC q h=>
 Dw h λbM h=>eS h λa aG az h=>eS h λb fE aE h=>eS h λt iO b8 h=>
  have z:=tR h (λh=>eS h λd oO cH h=>eS h λu Cb kB h=>⟨d,oO,u,Cb,aN _ _ cH,kB,rq h⟩) rq
  acz ok (Bool.or_eq_false_iff.mp (Bool.eq_false_iff.mpr bM)).2 (aI _ _ az) (aQ _ _ aE) b8 z.2 z.1
theorem fe.Hx (ok:D.Ok) (h_:pJ L n) (bG:n+1<=D.lvl) (bw:fe D J o jR) (aY:x8 D J ao vj):fe D J (.Call (.Attribute o x p) ao [] q) (if yg o&&(p.endLine==q.line&&decide (ao.length<30))then Y jR λiD=>Y (i0 iD x) λf=>Y vj λaa=>fz L D.p f (iD::aa)else no):=λC q h=>
 gE h λaP h=>eS h λa aG az h=>eS h λf fE aE h=>eS h λaa iO b8 h=>
  have aP:=Bool.and_eq_true_iff.mp aP
  have aN:=Bool.and_eq_true_iff.mp aP.2
  acK ok h_ bG aP.1 aN.1 (kJ aN.2) (bw _ _ az) aE (aY _ _ b8).1 (aY _ _ b8).2.1 h
theorem fe.call (ok:D.Ok) (h_:pJ L n) (iR:su L) (bG:n+1<=D.lvl) (bD:fe D J f jR) (aY:x8 D J ao vj):fe D J (.Call f ao [] q) (if MO f then Y jR λK7=>Y vj λaa=>fz L D.p K7 aa else no):=λC q h=>
 gE h λaP h=>eS h λf aG az h=>eS h λaa fE aE h=>acy ok h_ iR bG aP (bD _ _ az) (aY _ _ aE).1 (aY _ _ aE).2.1 h
theorem fe.attr (ok:D.Ok) (bw:fe D J o jR):fe D J (.Attribute o x q) (if yg o then Y jR λv=>fB v x else no):=λC q h=>gE h λaP h=>eS h λa aG az h=>acs ok aP (bw _ _ az) h
theorem fe.slice (ok:D.Ok) (bw:fe D J o jR) (bE:Ch D J x aiT) (cM:Ch D J y aiU) (hz:Ch D J z aiV):fe D J (.Subscript o (.Slice x y z p) q) (Y jR λv=>Y aiT λx=>Y aiU λy=>Y aiV λz=>Mine.slice D.p v x y z):=λC q h=>
 eS h λa aG az h=>eS h λx fE aE h=>eS h λy iO b8 h=>eS h λz oO cH h=>acQ ok (bw _ _ az) (bE _ _ aE) (cM _ _ b8) (hz _ _ cH) h
theorem fe.item (ok:D.Ok) (bw:fe D J o jR) (aj:fe D J e dK):fe D J (.Subscript o e q) (if s5 e then Y jR λa=>Y dK λb=>Mine.item a b else no):=λC q h=>gE h λbG h=>eS h λa aG az h=>eS h λb fE aE h=>acH ok bG (bw _ _ az) (aj _ _ aE) h
theorem fe.list (ok:D.Ok) (aY:x8 D J ao vj):fe D J (.List ao q) (Y vj λaa=>if decide (aa.length<=1000)then new D.p (.list aa)else no):=λC q h=>eS h λaa aG az h=>l_ h λhz h=>d7 h (acI ok (aY _ _ az).1 hz)
theorem fe.tup (ok:D.Ok) (aY:x8 D J ao vj):fe D J (.Tuple ao k q) (Y vj λaa=>if decide (aa.length<=1000)then ai (.tup aa)else no):=λC q h=>eS h λaa aG az h=>l_ h λhz h=>d7 h (acS ok (aY _ _ az).1 hz)
theorem ajh (ok:D.Ok) (φ) (C) (s) (o) (B:bz D φ J C s) (bG:s.heap.get? o=none):(o==sysModules)=false:=by
 cases q:(o==sysModules)with
 |false=>rfl
 |true=>exact(amV ok B).elim λos aeB=>oE (zX q▸bG) aeB
theorem fe.dict (ok:D.Ok) (aY:x8 D J ao vj):fe D J (.Dict dm ao q) (F9 D.p vj ao (zI dm) (yP dm)):=λC q h=>
 abO h (λdm bI h=>gE h λhz h=>eS h λaa aG az h=>d7 h (
  have i:=(aY _ _ az).2.2
  have hz:=Bool.and_eq_true_iff.mp hz
  have cM:=Bool.and_eq_true_iff.mp hz.1
  (Bool.or_eq_true_iff.mp hz.2).elim (λz=>Rq ok (SG bI) (λφ h a bO l d A=>⟨bO,d,A⟩) (kJ cM.2) (kJ cM.1) (kJ z) i.1 i.2)
   λz=>acC ok (SG bI) (λφ h a bO l d A=>⟨bO,d,A⟩) (kJ cM.2) (kJ cM.1) (kJ z) i.1 i.2 (ajh ok)))
  λdm bI h=>gE h λhz h=>eS h λaa aG az h=>d7 h (
  have i:=(aY _ _ az).2.2
  have hz:=Bool.and_eq_true_iff.mp hz
  have cM:=Bool.and_eq_true_iff.mp hz.1
  Rq ok (amJ bI) (λφ h a bO l d A=>⟨bO,d,A⟩) (kJ cM.2) (kJ cM.1) (kJ hz.2) i.1 i.2)
theorem j6.not (aY:j6 D J a vJ):j6 D J (.UnaryOp .Not a q) (Y vJ λt=>ai (!t)):=λC q h=>eS h λb aG az h=>pA h (anT ((aY _ _ az).mono (Is.go ⟨rfl,rfl⟩)))
theorem j6.and (aY:j6 D J a vJ) (aP:j6 D J b Ej):j6 D J (.BoolOp .And [a,b] q) (Y vJ λt=>if t then Ej else ai false):=λC q h=>eS h λb aG az h=>anQ ((aY _ _ az).mono (Is.go (tR h (aP _ _) λh=>zD h id)))
theorem j6.or (aY:j6 D J a vJ) (aP:j6 D J b Ej):j6 D J (.BoolOp .Or [a,b] q) (Y vJ λt=>if t then ai true else Ej):=λC q h=>eS h λb aG az h=>anU ((aY _ _ az).mono (Is.go (tR h (λh=>zD h id) (aP _ _)).symm))
theorem j6.or3 (aY:j6 D J a vJ) (aP:j6 D J b Ej) (aN:j6 D J c anO):j6 D J (.BoolOp .Or [a,b,c] q) (Y vJ λt=>if t then ai true else Y Ej λt=>if t then ai true else anO):=λC q h=>
 eS h λb aG az h=>anV ((aY _ _ az).mono (Is.go (tR h (λh=>zD h id) λh=>eS h λb fE aE h=>(aP _ _ aE).mono (Is.go (tR h (λh=>zD h id) (aN _ _)).symm)).symm))
theorem j6.cmp (ok:D.Ok) (aI:fe D J l jR) (aQ:fe D J r dK):j6 D J (.Compare l [eO] [r] q) (if behindInMarks eO r then no else Y jR λa=>Y dK λb=>dX eO a b):=λC q h=>
 Dw h λbM h=>eS h λa aG az h=>eS h λb fE aE h=>anS (Bool.eq_false_iff.mpr bM) ((aI _ _ az).mono (Is.go ((aQ _ _ aE).mono (Is.go (abf ok h)))))
theorem j6.uU (ok:D.Ok) (aI:fe D J l jR) (aQ:fe D J r dK) (aN:fe D J c Dr):j6 D J (.Compare l [eO,oH] [r,c] q) (if behindInMarks eO r || behindInMarks oH c then no else Y jR λa=>Y dK λb=>Y (dX eO a b) λt=>
  if t then Y Dr λc=>dX oH b c else ai false):=λC q h=>
 Dw h λbM h=>eS h λa aG az h=>eS h λb fE aE h=>eS h λt iO b8 h=>
  have z:=tR h (λh=>eS h λd oO cH h=>⟨d,oO,aN _ _ cH,h⟩) rq
  anR ok (Bool.or_eq_false_iff.mp (Bool.eq_false_iff.mpr bM)).2 (aI _ _ az) (aQ _ _ aE) b8 z.2 z.1
theorem j6.val (aY:fe D J a jR):j6 D J a (if M0 a then Y jR truth else no):=λC q h=>gE h λcA h=>eS h λv aG bk h=>anW (afn cA) ((aY _ _ bk).mono (Is.go ⟨_,(WG h).1,rfl,(WG h).2.symm⟩))
end
theorem aml (h_:pJ L n) (iR:su L) (ih:Ci L n k) (D) (J) (e) (ok:D.Ok) (aI:n+1<=D.lvl) (w:kj e):fe D J e (KW L (eK L k) (gv L k) (tX L k) (Gh L k) D.env.scope D.p J w):=by
 have I:=λe=>ih.v D J e ok aI
 have aC:=λe=>ih.l D J e ok aI
 induction w with
 |int=>exactλC q h=>pA h (acG ⟨rfl,rfl⟩)
 |str=>exactλC q h=>pA h (acR ⟨rfl,rfl⟩)
 |bool=>exactλC q h=>pA h (acv ⟨rfl,rfl⟩)
 |none=>exactλC q h=>pA h (acN ⟨rfl,rfl⟩)
 |bytes=>exactλC q h=>pA h (acw ⟨rfl,rfl⟩)
 |name=>exactλC q h=>aop ok h
 |bin=>exact .bin ok (I _) (I _)
 |neg=>exact .neg (I _)
 |and=>exact .and (I _) (I _)
 |or=>exact .or (I _) (I _)
 |GN=>exact .GN (ih.t D J _ ok aI) (I _) (I _)
 |cmp=>exact .cmp ok (I _) (I _)
 |uU=>exact .uU ok (I _) (I _) (I _)
 |Hx=>exact .Hx ok h_ aI (I _) (aC _)
 |call=>exact .call ok h_ iR aI (I _) (aC _)
 |attr=>exact .attr ok (I _)
 |slice=>exact .slice ok (I _) (ih.o D J _ ok aI) (ih.o D J _ ok aI) (ih.o D J _ ok aI)
 |item=>exact .item ok (I _) (I _)
 |list=>exact .list ok (aC _)
 |tup=>exact .tup ok (aC _)
 |dict=>exact .dict ok (aC _)
 |comp=>exactλC q h=>QJ h λx mY iter ifs it aG l0 u aN az aE g5 cH=>g5▸acB ok aN.1 aN.2 (I _ _ _ az) aE (λdi pg aR cA u_=>⟨λc cz aT b gf U e=>ih.t di cz c pg (u_▸aI) _ _ (by rw[aR,cA];exact e),λcz aT v gf e=>ih.v di cz _ pg (u_▸aI) _ _ (by rw[aR,cA];exact e)⟩) cH
 |no=>exactλC q h=>n5 (C:=C) h
theorem amk (ih:Ci L n k) (D) (J) (e) (ok:D.Ok) (aI:n+1<=D.lvl) (w:tQ e):j6 D J e (WA (eK L k D.env.scope D.p J) (gv L k D.env.scope D.p J) w):=by
 have I:=λe=>ih.v D J e ok aI
 have T:=λe=>ih.t D J e ok aI
 induction w with
 |not=>exact .not (T _)
 |and=>exact .and (T _) (T _)
 |or=>exact .or (T _) (T _)
 |or3=>exact .or3 (T _) (T _) (T _)
 |cmp=>exact .cmp ok (I _) (I _)
 |uU=>exact .uU ok (I _) (I _) (I _)
 |val=>exact .val (I _)
theorem amB (h:jA e=true):starEach (e::l) env=(false,eval e env)::starEach l env:=by
 nomatch e<;>first|rfl|nomatch h
theorem ami (ih:Ci L n k) (D) (J) (ao) (ok:D.Ok) (aI:n+1<=D.lvl):x8 D J ao (Rt (eK L k D.env.scope D.p J) (tX L k D.env.scope D.p J) ao):=λC q h=>by
 induction ao with
 |nil=>exact pA h ⟨acq ⟨rfl,rfl⟩,λU=>rfl,⟨rfl,rfl⟩,rfl⟩
 |cons e l=>exact gE h λbG h=>eS h λv aG az h=>eS h λaa fE aE h=>pA h (
   have yU:=ih.v D J _ ok aI _ _ az
   have i:=ih.l D J _ ok aI _ _ aE
   have aR:=amB bG
   ⟨acp (yU.mono (Is.go λpos=>(i.1 pos).mono (Is.go ⟨rfl,rfl⟩))) aR,λpos=>aR▸i.2.1 pos,⟨v,aG,aa,rfl,yU,i.2.2.1⟩,cJ Nat.succ i.2.2.2⟩)
theorem amj (ih:Ci L n k) (D) (J) (e) (ok:D.Ok) (aI:n+1<=D.lvl):Ch D J e (Rr (eK L k D.env.scope D.p J) e):=λC q h=>by
 induction e with
 |none=>exact pA h λφ s B=>jJ (.now B .none ⟨rfl,rfl⟩)
 |some e=>exact ih.v D J _ ok aI _ _ h
theorem By (h_:pJ L n) (iR:su L):∀k,Ci L n k
 |0=>⟨λU U U U U U U h=>fK h,λU U U U U U U h=>fK h,λU U U U U U U h=>fK h,λU U U U U U U h=>fK h⟩
 |k+1=>have af:=By h_ iR k;⟨λD J e ok aI=>aml h_ iR af D J e ok aI (CG e),λD J e ok aI=>amk af D J e ok aI (Wz e),ami af,amj af⟩
end
section
variable {D:dU} {K dI:aL->bL->Prop}
theorem WM {P:I->Prop} (e:ie v f C=some q) (k:∀a b,f a b C=some q->P (.tup [a,b])):P v:=by
 cases v with
 |tup l=>rcases l with _|⟨a,_|⟨b,_|_⟩⟩<;>first|exact k _ _ e|nomatch e
 |_=>nomatch e
theorem WN {P:I->Prop} (e:tw v f C=some q) (k:∀a b c,f a b c C=some q->P (.tup [a,b,c])):P v:=by
 cases v with
 |tup l=>rcases l with _|⟨a,_|⟨b,_|⟨c,_|_⟩⟩⟩<;>first|exact k _ _ _ e|nomatch e
 |_=>nomatch e
theorem aol {P:I->Prop} (e:Oj v f C=some q) (k:∀a b c d,f a b c d C=some q->P (.tup [a,b,c,d])):P v:=by
 cases v with
 |tup l=>rcases l with _|⟨a,_|⟨b,_|⟨c,_|⟨d,_|_⟩⟩⟩⟩<;>first|exact k _ _ _ _ e|nomatch e
 |_=>nomatch e
theorem lN.go (p:lN D φ C s (λdQ aG=>dQ=cz/\aG=gf) u bW) (h:K cz gf):lN D φ C s K u bW:=
 let⟨cg,dQ,aG,l,B,bk,bK⟩:=p;⟨cg,dQ,aG,l,B,by rw[bk,bK];exact h⟩
theorem Ye (ok:D.Ok) (bw:dW D o J C (Is iD aG)) (e:lT iD x v aG=some q) (h:K J q.2):nO D (.Attribute o x p) v J C K:=λφ s aO B r=>by
 rw[arm_assign_Attribute]
 refine eP (qF (bw.kP B λrm b3 br e7 bQ dH=>?_))
 refine eP (BQ (eP (qF (gi (akN ok e bQ e7 (B.m7 dH r)) (λu jC p=>?_) λU U z=>z))))
 exact wpAny_release' (lN.after bQ dH (p.go h))
theorem Yg (ok:D.Ok) (bw:dW D o J C (Is iD aG)) (aj:dW D i J aG (Is yU fE)) (e:ju iD yU v fE=some q) (h:K J q.2):nO D (.Subscript o i p) v J C K:=λφ s aO B r=>by
 rw[arm_assign_Subscript]
 refine eP (qF (bw.kP B λrm b3 br e7 bQ dH=>?_))
 refine eP (qF (aj.kP bQ λVH jX jC kS fh gp=>?_))
 have l:=dH.trans bQ gp
 refine eP (BQ (eP (qF (gi (akO ok e fh (bQ.m7 gp e7) kS (B.m7 l r)) (λu qz p=>?_) λU U z=>z))))
 exact wpAny_release' (lN.after fh l (p.go h))
theorem KR (h:jA t=true):assignEach (t::fq) env=(false,assign t env)::assignEach fq env:=by
 nomatch t<;>first|rfl|nomatch h
theorem Wg (ok:D.Ok) (kA:D.rJ) (h:LX D.env.scope x=true):v8 D x:=by
 unfold LX at h
 rw[EH,zW,zW]at h
 rcases h with h|h
 .exact .inl h
 .obtain⟨a,aY⟩:=ok.cls x (.inl h)
  exact .inr ⟨h,a,aY,kA x a aY⟩
theorem Fg (aR:jA t=true) (h:nO D t v J C λdQ aG=>sr D fq aa dQ aG K):sr D (t::fq) (v::aa) J C K:=Ym (by rw[KR aR];rfl) h
theorem JU (ok:D.Ok) {k p} (aR:fq.all jA=true) (aI:fq.length=aa.length) (h:sr D fq aa J C K):nO D (.Tuple fq k p) (.tup aa) J C K:=by
 have e:assignEach fq D.env=fq.map λt=>(false,assign t D.env):=by
  clear h aI
  induction fq with
  |nil=>rfl
  |cons t fq ih=>rw[List.all_cons,gI]at aR;rw[KR aR.1,ih aR.2];rfl
 exact Yh ok (by rw[e,fD,aI]) (by rw[e,List.findIdx?_map];simp[Function.comp_def]) h
def yb (D:dU) (t:Expr) (v:I) (J:aL) (au:aL->aD I) (m:aD I):Prop:=∀C R,m C=some R->nO D t v J C λdQ aG=>au dQ aG=some R
theorem uN (h:jA t=true) (bH:l.all jA=true):(t::l).all jA=true:=by rw[List.all_cons,h,bH];rfl
section
variable {E:aL->Expr->aD I} {A:Expr->I->aL->(aL->aD I)->aD I} {R:I×bL}
theorem Yk (jh:∀t v J au,yb D t v J au (A t v J au)) (az:jA fC=true) (h:A fC lF J au C=some R):sr D [fC] [lF] J C λdQ aG=>au dQ aG=some R:=Fg az ((jh _ _ _ _ _ _ h).mono λU U h=>Yn h)
theorem Pz (jh:∀t v J au,yb D t v J au (A t v J au)) (az:jA fC=true) (aE:jA b6=true) (h:A fC lF J (λJ=>A b6 j4 J au) C=some R):sr D [fC,b6] [lF,j4] J C λdQ aG=>au dQ aG=some R:=Fg az ((jh _ _ _ _ _ _ h).mono λU U h=>Yk jh aE h)
theorem PA (jh:∀t v J au,yb D t v J au (A t v J au)) (az:jA fC=true) (aE:jA b6=true) (b8:jA t3=true) (h:A fC lF J (λJ=>A b6 j4 J λJ=>A t3 tB J au) C=some R):sr D [fC,b6,t3] [lF,j4,tB] J C λdQ aG=>au dQ aG=some R:=
 Fg az ((jh _ _ _ _ _ _ h).mono λU U h=>Pz jh aE b8 h)
theorem Yl (jh:∀t v J au,yb D t v J au (A t v J au)) (az:jA fC=true) (aE:jA b6=true) (b8:jA t3=true) (cH:jA fj=true) (h:A fC lF J (λJ=>A b6 j4 J λJ=>A t3 tB J λJ=>A fj IU J au) C=some R):sr D [fC,b6,t3,fj] [lF,j4,tB,IU] J C λdQ aG=>au dQ aG=some R:=
 Fg az ((jh _ _ _ _ _ _ h).mono λU U h=>PA jh aE b8 cH h)
theorem Yj (ok:D.Ok) (kA:D.rJ) (lQ:∀J e,fe D J e (E J e)) (jh:∀t v J au,yb D t v J au (A t v J au)) (w:tH t):yb D t v J au (JV E A D.env.scope v J au w):=by
 induction w with
 |name=>exactλC R h=>gE h λbI h=>Py ok (Wg ok kA bI) h
 |attr=>exactλC R h=>eS h λiD aG az h=>eS h λu fE aE h=>Ye ok (lQ _ _ _ _ az) aE h
 |item=>exactλC R h=>gE h λaR h=>eS h λiD aG az h=>eS h λyU fE aE h=>eS h λu iO b8 h=>Yg ok (lQ _ _ _ _ az) (lQ _ _ _ _ aE) b8 h
 |b6=>exactλC R h=>gE h λaR h=>WM (P:=λv=>nO D _ v J C λdQ aG=>au dQ aG=some R) h λlF j4 h=>(have aR:=Bool.and_eq_true_iff.mp aR;JU ok (uN aR.1 (uN aR.2 rfl)) rfl (Pz jh aR.1 aR.2 h))
 |t3=>exactλC R h=>gE h λaR h=>WN (P:=λv=>nO D _ v J C λdQ aG=>au dQ aG=some R) h λlF j4 tB h=>(have aR:=Bool.and_eq_true_iff.mp aR;have hz:=Bool.and_eq_true_iff.mp aR.1;JU ok (uN hz.1 (uN hz.2 (uN aR.2 rfl))) rfl (PA jh hz.1 hz.2 aR.2 h))
 |fj=>exactλC R h=>gE h λaR h=>aol (P:=λv=>nO D _ v J C λdQ aG=>au dQ aG=some R) h λlF j4 tB IU h=>(have aR:=Bool.and_eq_true_iff.mp aR;have hz:=Bool.and_eq_true_iff.mp aR.1;have cM:=Bool.and_eq_true_iff.mp aR.2;JU ok (uN hz.1 (uN hz.2 (uN cM.1 (uN cM.2 rfl)))) rfl (Yl jh hz.1 hz.2 cM.1 cM.2 h))
 |no=>exactλC R h=>fK h
end
theorem JW (h_:pJ L n) (iR:su L) (ok:D.Ok) (kA:D.rJ) (aI:n+1<=D.lvl):∀m {t:Expr} {v:I} {J:aL} {au:aL->aD I},yb D t v J au (asg L k D.env.scope D.p m t v J au)
 |0=>λU U h=>fK h
 |m+1=>Yj ok kA (λJ e=>(By h_ iR k).v D J e ok aI) (λU U U U=>JW h_ iR ok kA aI m) (JT _)
theorem ajd (ok:D.Ok):D.env.blockKind=.function:=by
 unfold Env.blockKind;rw[ok.kind];rfl
theorem C7 {b9 ef:Type} {c:Prop} [Decidable c] {a b:Option b9} {x y z:ef} {r:b9} (h:(if c then a else b)=some r) (aY:a=some r->x=z) (aP:b=some r->y=z):(if c then x else y)=z:=by
 by_cases g:c
 .rw[bT g]at h ⊢;exact aY h
 .rw[bX g]at h ⊢;exact aP h
theorem D5 {a r:b9} (h:some a=some r):(pure a:Sem b9)=pure r:=cJ pure (iH h)
theorem amS (ok:D.Ok) {k p aa q A_} {r:Option (List Str)} (h:NQ D.env.scope fq aa=some r):swappedStores [.Tuple fq k p] (.Tuple aa q A_) D.env=pure r:=by
 unfold NQ at h
 unfold swappedStores
 rw[ajd ok]
 dsimp only
 rw[show(ScopeKind.function != ScopeKind.function)=false from rfl,Jj]
 exact C7 h D5 λh=>C7 h D5 λh=>C7 h D5 λh=>C7 h D5 λh=>C7 h fK D5
theorem IQ (h:vL t=some fq):∃k p,t=.Tuple fq k p:=
 let⟨⟨_,p⟩,_,e⟩:=Option.map_eq_some_iff.mp h;by subst e;exact p
theorem ajf (aI:LG t=false) (h:vL t=none):swappedStores [t] e env=pure none:=by
 cases t with
 |Tuple=>nomatch h
 |List=>nomatch aI
 |_=>rfl
theorem ajg {k p} (h:vL e=none):swappedStores [.Tuple fq k p] e env=pure none:=by
 cases e with
 |Tuple=>nomatch h
 |_=>rfl
theorem Wi (ok:D.Ok) {r:Option (List Str)} (h:vE t e D.env.scope=some r):swappedStores [t] e D.env=pure r:=by
 unfold vE at h
 cases aI:LG t with
 |true=>rw[aI]at h;nomatch h
 |false=>
  rw[aI,bX xP]at h
  cases bY:vL t with
  |none=>rw[bY]at h;nomatch h;exact ajf aI bY
  |some fq=>
   rw[bY]at h
   obtain⟨k,p,rfl⟩:=IQ bY
   cases cK:vL e with
   |none=>rw[cK]at h;nomatch h;exact ajg cK
   |some aa=>
    rw[cK]at h
    obtain⟨j0,A_,rfl⟩:=IQ cK
    exact amS ok h
end
section
theorem acV (ok:D.Ok) (j8:swapsWith (.ListComp kZ [⟨.Name x mY,iter,ifs,0⟩] eB pos) (some (.Name y zu)) p.line D.env=pure true) (cM:v8 D y)
  (aN:yq eB D.env.scope x=true) (aR:zf iter=true) (aj:dW D iter J C (Is it aG)) (bk:jP it aG=some q)
  {gv:Expr->aL->aD Bool}
  (dj:∀di:dU,di.Ok->di.env.scope=kq eB D.env.scope->di.p=aG.k::D.p->di.lvl=D.lvl->
   (∀c cz aT b gf,ifs=[c]->gv c cz aT=some (b,gf)->ja di c cz aT (Is b gf))/\(∀cz aT v gf,ek cz aT=some (v,gf)->dW di kZ cz aT (Is v gf)))
  (e:rO (xE gv ifs) ek x it (0::aG.k::D.p) (wA eB J) 1000 0 ⟨aG.h.set (0::aG.k::D.p) (.list []),1⟩=some ((),l0))
  (bI:dI (J.put y (.ref (0::aG.k::D.p))) ⟨l0.h,aG.k+1⟩):
  bF D (.Assign [.Name y zu] (.ListComp kZ [⟨.Name x mY,iter,ifs,0⟩] eB pos) p) J C dI gZ:=λφ s B=>by
 refine iu λaH ez=>?_
 obtain⟨⟨⟨⟨fQ,iP⟩,pQ⟩,uR⟩,wz⟩:=KB aN
 obtain⟨jN,Lk,u6,CW⟩:=Qz λy m=>ok.cls y (by
  rcases(wz _ m rfl).2 with z|z
  .exact .inl z
  .exact .inr z)
 refine ez ?_
 rw[exec_Assign_Name_used _ _ _ _ j8,arm_evalThenUse_ListComp]
 refine eP (BQ (eP (eP ?_)))
 refine wpAny_comprehension_free rfl (MN aR) Lk fQ uR ?_
 refine aj.kP B λaO b3 br e7 bQ dH=>?_
 refine gi (QM ok aN u6 CW bQ e7 bk dj e) (λNr jC p=>gi p (λeg qz p=>gi p (λFG zK p=>xS p λr Eb p=>?_) λU U z=>z) λU U z=>z) λU U z=>z
 induction p with|intro pr p=>induction p with|mk cg m bM le bU bV lo bG=>
 rw[pr]
 exact UE ok cM bU bV λjX amW gp fh=>(by
  obtain⟨o,ao,jo,e,d⟩:=bM
  exact⟨m,⟨o,ao,jo,gp.keep _ _ e lo.un lo.fr,d⟩,λbH wZ=>have q:=QG ok dH bG ((dH.trans bQ le).trans bU gp) fh (lo.le gp) (λb o n e=>wZ.extBut b o n e) amW.toks;jJ (jJ ⟨jX,_,_,q.2,q.1,bI⟩)⟩)
theorem akq {aS:Addr} {E:Value->Shared->Prop} (x:qM φ s.heap aS i it) (h:Q () s):wpAny (cX D) D.A (letOwnedTupleGo t (.ref aS) aO) Q E s:=by
 have key:∀{cls:String} {Gq:Array Value} {o:Obj} {T:Addr},s.heap.get? aS=some o->o.cls=.type cls->o.data=.fields Gq->(["enumerate","zip","dict_itemiterator","dict_reverseitemiterator","odict_iterator","itertools.zip_longest","itertools.pairwise"].contains cls)=false->
   ∀{wG ah pos},wpAny (cX D) D.A (letOwnedTupleGo (.Tuple wG ah pos) (.ref aS) (.ref T)) Q E s:=λ{cls Gq o T} bw aN hd bG {wG ah pos}=>by
  unfold letOwnedTupleGo
  refine eP (wpAny_load bw ?_)
  rw[aN,hd]
  dsimp only
  rw[bG,Bool.false_and]
  exact jJ h
 have all:∀{T:Addr} {wG ah pos},wpAny (cX D) D.A (letOwnedTupleGo (.Tuple wG ah pos) (.ref aS) (.ref T)) Q E s:=by
  intro T wG ah pos
  nomatch it<;>try exact x.elim
  .obtain⟨l,_,o,bw,aN,hd⟩:=x;exact key bw aN hd (by decide)
  .obtain⟨l,_,_,_,_,o,bw,aN,hd⟩:=x;exact key bw aN hd (by decide)
  .exact key x rfl rfl (by decide)
 cases t with
 |Tuple wG ah pos=>induction aO with
  |ref T=>exact all
  |_=>exact jJ h
 |List wG pos=>induction aO with
  |ref T=>exact(show wpAny (cX D) D.A (letOwnedTupleGo (.Tuple wG 0 pos) (.ref aS) (.ref T)) Q E s from all)
  |_=>exact jJ h
 |_=>exact jJ h
theorem oN.go {E:Value->Shared->Prop} (h:oN D b J C dI gZ) (B:bz D φ J C s) (yW:∀b3 dQ aG br,eV D φ C s b3 aG br->bz D b3 dQ aG br->dI dQ aG->Q .next br)
  (Dc:∀b3 dQ aG br w,eV D φ C s b3 aG br->bz D b3 dQ aG br->B_ b3 br.heap dI gZ dQ aG (.ret w)->Q (.ret w) br):wpAny (cX D) D.A (execs b D.env) Q E s:=
 gi (h φ s B) (λf br p=>by
  induction p with|mk b3 dQ aG l bQ q=>induction f with
   |next=>exact yW _ _ _ _ l bQ q
   |ret w=>exact Dc _ _ _ _ w l bQ q
   |brk=>exact q.elim
   |cont=>exact q.elim) λU U z=>z.elim
theorem om.new (B:bz D φ J C s) (h:∃o,g.get? s.heap.objs.size=some o/\f7 o=false):om D φ g s.heap.objs.size:=by
 have n:=nH s.heap
 refine⟨?_,λq=>?_,λr q=>?_,h⟩
 .cases q:D.jy.get? s.heap.objs.size with
  |none=>rfl
  |some o=>exact nomatch n.symm.trans (B.keep _ _ q)
 .obtain⟨o,e,_⟩:=B.ny _ q;exact nomatch n.symm.trans e
 .obtain⟨_,_,o,e,_⟩:=B.own r _ q;exact nomatch n.symm.trans e
noncomputable def adD (body:aL->(aL->aD I)->aD I) (gr:I->aL->(aL->aD I)->aD I) (au rec:aL->aD I) (J:aL):Option I->aD I
 |none=>au J
 |some v=>gr v J λJ=>body J rec
theorem adF {body:aL->(aL->aD I)->aD I} {gr:I->aL->(aL->aD I)->aD I} {au:aL->aD I} {R:I×bL} {P:Prop} (e:gP body gr it au n i J C=some R) (k:∀m,m<n->Y (g8 it i) (adD body gr au (gP body gr it au m (i+1)) J) C=some R->P):P:=by
 induction n with
 |zero=>nomatch e
 |succ m=>exact k m (xQ m) e
theorem aoz {body:aL->(aL->aD I)->aD I} {R:I×bL} {P:Prop} (e:uw vK body au n J C=some R) (k:∀m t aG,m<n->vK J C=some (t,aG)->(if t then body J (uw vK body au m)else au J) aG=some R->P):P:=by
 induction n with
 |zero=>nomatch e
 |succ m=>exact eS e λt aG bk e=>k m t aG (xQ m) bk e
def Xu (D:dU) (jK:dG) (j5:bL) (eX:Shared) (aS:Addr) (it:I) (c:Nat->Nat->aL->aD I) (R:I×bL) (n:Nat) (s:Shared):Prop:=
 ∀P:Prop,(∀i φ J C,c n i J C=some R->sA D jK j5 eX aS it i φ J C s->P)->P
def XU (D:dU) (jK:dG) (j5:bL) (eX:Shared) (c:Nat->aL->aD I) (R:I×bL) (n:Nat) (s:Shared):Prop:=
 ∀P:Prop,(∀φ J C,c n J C=some R->bz D φ J C s->eV D jK j5 eX φ C s->P)->P
theorem acX (ok:D.Ok) {t it:Expr} {p:Pos} {au:aL->aD I} {R:I×bL} {body:aL->(aL->aD I)->aD I}
  (aR:zf it=true) (aj:dW D it J C (Is v aG)) (bk:jP v aG=some q)
  (aY:∀v J C au,gr v J au C=some R->nO D t v J C λdQ aG=>au dQ aG=some R)
  (aP:∀J C au,body J au C=some R->oN D b J C (λdQ aG=>au dQ aG=some R) λw aG=>(w,aG)=R)
  (e:gP body gr v au k 0 J aG=some R):bF D (.For t it b [] p) J C (λdQ aG=>au dQ aG=some R) λw aG=>(w,aG)=R:=λφ s B=>
 wpAny_For (aj.kP B λaO jK eX alT zJ Hs=>SK ok bk zJ alT λg GZ yH AP Lf=>
  codeAny_forLoop_any (Xu D jK aG eX eX.heap.objs.size v (gP body gr v au) R) (λn s p=>p _ λi φ J C e aC=>adF e λm bM e=>aC.next ok (nH _) e
   (λw aO br e r aC=>akq aC.it ((aY _ _ _ _ e).go aC.B r λjX apI fE jC l B e=>(aP _ _ _ e).go B (λqJ E2 iO qz lR iS e=>⟨m,bM,λP k=>k _ _ _ _ e ((aC.go l B).go lR iS)⟩)
    λqJ E2 iO qz w lR iS q=>⟨qJ,E2,iO,Hs.trans zJ ((aC.go l B).go lR iS).le,iS,q⟩))
   λbr e B le=>wpAny_execs_nil ⟨_,_,_,Hs.trans zJ le,B,e⟩) k λP k=>k _ _ _ _ e ⟨zJ.ext GZ eX.toks ok,.ext GZ eX.toks,AP,.new zJ Lf⟩) (MN aR)
theorem ac4 {p:Pos} {R:I×bL} {vK:aL->aD Bool} {body:aL->(aL->aD I)->aD I}
  (bY:∀J C q,vK J C=some q->ja D c J C (Is q.1 q.2))
  (aP:∀J C au,body J au C=some R->oN D b J C (λdQ aG=>au dQ aG=some R) λw aG=>(w,aG)=R)
  (e:uw vK body au k J C=some R):bF D (.While c b [] p) J C (λdQ aG=>au dQ aG=some R) λw aG=>(w,aG)=R:=λjK eX zJ=>
 wpAny_While (codeAny_whileLoop (XU D jK C eX (uw vK body au) R) (λn s p=>p _ λφ J C e B le=>aoz e λm t aG bM bk e=>mL.kP (bY _ _ _ bk) B λa b3 br r bQ l=>by
  have le:=le.trans B l
  nomatch r
  induction t with
  |false=>exact wpAny_execs_nil ⟨_,_,_,le,bQ,e⟩
  |true=>exact(aP _ _ _ e).go bQ (λqJ E2 iO qz lR iS e=>⟨m,bM,λP k=>k _ _ _ e iS (le.trans bQ lR)⟩) λqJ E2 iO qz w lR iS q=>⟨qJ,E2,iO,le.trans bQ lR,iS,q⟩) k λP k=>k _ _ _ e zJ .refl)
end
def Pk (D:dU) (J:aL) (t:Stmt) (au:aL->aD I) (m:aD I):Prop:=∀C R,m C=some R->bF D t J C (λdQ aG=>au dQ aG=some R) λw aG=>(w,aG)=R
def Pj (D:dU) (J:aL) (t:List Stmt) (au:aL->aD I) (m:aD I):Prop:=∀C R,m C=some R->oN D t J C (λdQ aG=>au dQ aG=some R) λw aG=>(w,aG)=R
structure JH (L:ay->Addr->List I->aD I) (n k):Prop where
 x:∀(D:dU) J (t:Stmt) (au:aL->aD I),D.Ok->D.rJ->n+1<=D.lvl->Pk D J t au (ex L k D.env.scope D.p t J au)
 xs:∀(D:dU) J t (au:aL->aD I),D.Ok->D.rJ->n+1<=D.lvl->Pj D J t au (c5 L k D.env.scope D.p t J au)
section
theorem ac9 {r:List Stmt} (h:bF D t J C (λdQ aG=>oN D r dQ aG dI gZ) gZ):oN D (t::r) J C dI gZ:=λφ s B=>
 wpAny_execs_cons (gi (h φ s B) (λf br p=>p.k λb3 dQ aG l bQ q=>q.k (P:=λf=>match f with
   | .next=>wpAny (cX D) D.A (execs r D.env) (tN D φ C s dI gZ) dR br
   |f=>tN D φ C s dI gZ f br) (λq=>gi (q b3 br bQ) (λU U p=>p.after bQ l) λU U x=>x) λaO v a b=>⟨b3,dQ,aG,l,bQ,v,a,b⟩) λU U x=>x)
theorem bF.mono (h:bF D t J C dI gZ) (i:∀J C,dI J C->E8 J C) (j:∀v C,gZ v C->Jx v C):bF D t J C E8 Jx:=λφ s B=>
 gi (h φ s B) (λf bW p=>p.k λcg cz aT l bU q=>⟨cg,cz,aT,l,bU,q.k (i _ _) λaO v a b=>⟨v,a,j _ _ b⟩⟩) λU U x=>x
theorem amT (h:¬GP e=true):swapsWithSole [t] e line env=pure false:=by
 rcases e with _|_<;>first|rfl|exact absurd rfl h
theorem amU {R:I×bL} (h:NR v J au names C=some R):∃aa,v=.tup aa/\aa.length=names.length/\au (Bc names.reverse aa.reverse J) C=some R:=by
 rcases names with _|⟨x,_|⟨y,_|⟨z,_|_⟩⟩⟩
 .exact fK h
 .exact fK h
 .exact WM (P:=λv=>∃aa,v=.tup aa/\aa.length=2/\au (Bc [y,x] aa.reverse J) C=some R) h λa b h=>⟨_,rfl,rfl,h⟩
 .exact WN (P:=λv=>∃aa,v=.tup aa/\aa.length=3/\au (Bc [z,y,x] aa.reverse J) C=some R) h λa b c h=>⟨_,rfl,rfl,h⟩
 .exact fK h
theorem GR {ef:Type} [Decidable c] {o:Option (Option ef)} {a:ef} (h:(if c then some none else o)=some (some a)):o=some (some a):=by
 by_cases q:c
 .exact fK (iH ((bT q).symm.trans h))
 .exact(bX q).symm.trans h
theorem SM {ef:Type} [Decidable c] {o:Option ef} {a:ef} (h:(if c then none else o)=some a):o=some a:=by
 by_cases q:c
 .exact fK ((bT q).symm.trans h)
 .exact(bX q).symm.trans h
theorem afr {ef:Type} [Decidable c] {x a:ef} (h:(if c then some x else none)=some a):c/\x=a:=by
 by_cases q:c
 .exact⟨q,iH ((bT q).symm.trans h)⟩
 .exact fK ((bX q).symm.trans h)
theorem an0 (h:Ek sc l e=some x):sc.names.lookup x=some .local:=by
 cases e with
 |Name id pos=>have z:=afr h;exact z.2▸zX (Bool.and_eq_true_iff.mp z.1).1
 |_=>exact fK h
theorem amR (h:vE t e sc=some (some names)):(∃fq k q,t=.Tuple fq k q)/\(∃ao k q,e=.Tuple ao k q)/\∀x∈names,sc.names.lookup x=some .local:=by
 have h:=SM h
 cases bY:vL t with
 |none=>rw[bY]at h;nomatch h
 |some fq=>
  cases cK:vL e with
  |none=>rw[bY,cK]at h;nomatch h
  |some aa=>
   rw[bY,cK]at h
   exact⟨⟨fq,IQ bY⟩,⟨aa,IQ cK⟩,λx bE=>(List.mem_filterMap.mp (iH (iH (SM (GR (GR (GR (GR h))))))▸bE)).elim λa q=>an0 q.2⟩
theorem amh (h_:pJ L n) (iR:su L) (D) (J) (C) (au) (R) (ok:D.Ok) (kA:D.rJ) (aI:n+1<=D.lvl) (az:eK L k D.env.scope D.p J (.ListComp kZ j7 eB pos) C=some (v,aG)) (h:asg L k D.env.scope D.p 3 (.Name y zu) v J au aG=some R)
  (w4:swapsWithSole [.Name y zu] (.ListComp kZ j7 eB pos) p.line D.env=pure true):bF D (.Assign [.Name y zu] (.ListComp kZ j7 eB pos) p) J C (λdQ aG=>au dQ aG=some R) λw aG=>(w,aG)=R:=by
 have aR:v8 D y/\au (J.put y v) aG=some R:=gE h λbI h=>⟨Wg ok kA bI,h⟩
 induction k with
 |zero=>exact fK az
 |succ k=>
  have JG:=By h_ iR k
  exact QJ (P:=λw=>au (J.put y w.1) w.2=some R->bF D (.Assign [.Name y zu] (.ListComp kZ j7 eB pos) p) J C (λdQ aG=>au dQ aG=some R) λw aG=>(w,aG)=R) az (λx mY iter ifs it aG fE u aN aE b8 g5 kB Lx=>g5▸acV ok (g5▸w4) aR.1 aN.1 aN.2 (JG.v D J _ ok aI _ _ aE) b8
   (λdi pg aR cA u_=>⟨λc cz aT b gf U e=>JG.t di cz c pg (u_▸aI) _ _ (by rw[aR,cA];exact e),λcz aT v gf e=>JG.v di cz _ pg (u_▸aI) _ _ (by rw[aR,cA];exact e)⟩) kB Lx) aR.2
theorem Yi {E:aL->Expr->aD I} {R:I×bL} (h:JV E A sc v J au (JT t) C=some R):jA t=true:=by
 cases t with
 |Starred=>exact fK h
 |_=>rfl
theorem abr {P:Expr->Prop} (cj:∀e,¬GP e=true->P e) (az:∀kZ j7 eB pos,P (.ListComp kZ j7 eB pos)) (aE:∀e,CG e=.no e->P e):P e:=by
 cases e with
 |ListComp a b c d=>exact az a b c d
 |SetComp=>exact aE _ rfl
 |DictComp=>exact aE _ rfl
 |_=>exact cj _ xP
theorem aiW {P:Expr->Prop} (cj:∀t,(∀a b c d line env,swapsWithSole [t] (.ListComp a b c d) line env=pure false)->P t) (az:∀y q,P (.Name y q)):P t:=by
 cases t with
 |Name y q=>exact az y q
 |_=>exact cj _ λU U U U U U=>rfl
theorem acM {P:Prop} (h:eK L k sc p J e C=some q) (eL:CG e=.no e):P:=by
 induction k with
 |zero=>exact fK h
 |succ k=>have h:KW L (eK L k) (gv L k) (tX L k) (Gh L k) sc p J (CG e) C=some q:=h;rw[eL]at h;exact fK h
theorem amg (h_:pJ L n) (iR:su L) (D:dU) J (t e) (p) (C) (au:aL->aD I) (R:I×bL) (ok:D.Ok) (kA:D.rJ) (aI:n+1<=D.lvl) (eL:vE t e D.env.scope=some none) (az:eK L k D.env.scope D.p J e C=some (v,aG)) (h:asg L k D.env.scope D.p 3 t v J au aG=some R):bF D (.Assign [t] e p) J C (λdQ aG=>au dQ aG=some R) λw aG=>(w,aG)=R:=by
 have plain:swapsWithSole [t] e p.line D.env=pure false->bF D (.Assign [t] e p) J C (λdQ aG=>au dQ aG=some R) λw aG=>(w,aG)=R:=λaR=>
  ac2 aR (Wi ok eL) (by rw[KR (Yi h)];rfl) (((By h_ iR k).v D J _ ok aI _ _ az).mono (Is.go (JW h_ iR ok kA aI 3 _ _ h)))
 revert eL az plain
 refine abr (P:=λe=>vE t e D.env.scope=some none->eK L k D.env.scope D.p J e C=some (v,aG)->(swapsWithSole [t] e p.line D.env=pure false->bF D (.Assign [t] e p) J C (λdQ aG=>au dQ aG=some R) λw aG=>(w,aG)=R)->bF D (.Assign [t] e p) J C (λdQ aG=>au dQ aG=some R) λw aG=>(w,aG)=R) (λe aN eL az plain=>plain (amT aN)) (λkZ j7 eB pos eL az plain=>?_) λe bG eL az plain=>acM az bG
 revert h plain
 refine aiW (P:=λt=>asg L k D.env.scope D.p 3 t v J au aG=some R->(swapsWithSole [t] (.ListComp kZ j7 eB pos) p.line D.env=pure false->bF D (.Assign [t] (.ListComp kZ j7 eB pos) p) J C (λdQ aG=>au dQ aG=some R) λw aG=>(w,aG)=R)->bF D (.Assign [t] (.ListComp kZ j7 eB pos) p) J C (λdQ aG=>au dQ aG=some R) λw aG=>(w,aG)=R) (λt aR h plain=>plain (aR _ _ _ _ _ _)) λy zu h plain=>?_
 cases aP:(D.env.blockKind==.function&&D.env.kindOf y==some .local&&zu.line==(Expr.ListComp kZ j7 eB pos).pos.line
   &&!(eB.names.any λ(n,k)=>n==y&&(k==.local || k==.cell)))with
 |false=>exact plain (cJ pure aP)
 |true=>exact amh h_ iR D J C au R ok kA aI az h (cJ pure aP)
theorem ac7 (h:¬GP e=true):swapsWith e none line env=pure false:=by
 rcases e with _|_<;>first|rfl|exact absurd rfl h
theorem alv (h:t7 v=true):UK v=true:=by
 rcases v with _|_<;>first|rfl|exact lP h
theorem Yo {R:I×bL} {P:Prop} (h:JX m g6 gK o C=some R) (yW:o=some none->Y m g6 C=some R->P) (dm:∀names,o=some (some names)->Y m (λv=>gK v names) C=some R->P):P:=by
 rcases o with _|_|names
 .exact fK h
 .exact yW rfl h
 .exact dm names rfl h
theorem amm (h_:pJ L n) (iR:su L) (ih:JH L n k) (D) (J) (t) (au:aL->aD I) (ok:D.Ok) (kA:D.rJ) (aI:n+1<=D.lvl) (w:rK t):
  Pk D J t au (Rv (eK L k D.env.scope D.p) (gv L k D.env.scope D.p) (asg L k D.env.scope D.p 3) (c5 L k D.env.scope D.p) D.env.scope J au w):=by
 have I:=λJ e=>(By h_ iR k).v D J e ok aI
 have T:=λJ e=>(By h_ iR k).t D J e ok aI
 have G:=λt J au=>ih.xs D J t au ok kA aI
 induction w with
 |pass=>exactλC R h=>acZ h
 |ret=>exactλC R h=>ac0 ((I _ _ _ _ h).mono (Is.go rfl))
 |VE=>exactλC R h=>ac1 (rq h).symm
 |ite=>exactλC R h=>eS h λb aG az h=>acY ((T _ _ _ _ az).mono (Is.go (tR h (G _ _ _ _ _) (G _ _ _ _ _))))
 |expr=>exactλC R h=>Dw h λaN h=>eS h λv aG az h=>gE h λaQ h=>acW (ac7 aN) (by unfold interactive;rw[ok.kind];rfl) ((I _ _ _ _ az).mono (Is.go ⟨alv aQ,h⟩))
 |asg t e p=>
  refineλC R h=>Yo h (λeL h=>eS h λv aG az h=>amg h_ iR D J t e p C au R ok kA aI eL az h) λnames eL h=>eS h λv aG az jg=>?_
  obtain⟨⟨fq,j0,q,rfl⟩,⟨ao,apA,xt,rfl⟩,bG⟩:=amR eL
  exact ac3 ok rfl (Wi ok eL) ((I _ _ _ _ az).mono (Is.go ((amU jg).elim λaa z=>⟨aa,z.1,z.2.1,λx bE=>.inl (bG x bE),z.2.2⟩)))
 |«for»=>exactλC R h=>gE h λaR h=>eS h λv aG az h=>SO h λu aE h=>acX ok aR (I _ _ _ _ az) aE (λv J C au e=>JW h_ iR ok kA aI 3 _ _ e) (λJ C au e=>G _ _ _ _ _ e) h
 |«while»=>exactλC R h=>ac4 (λJ C q e=>T _ _ _ _ e) (λJ C au e=>G _ _ _ _ _ e) h
 |no=>exactλC R h=>n5 (C:=C) h
theorem amn (ih:JH L n k) (D) (J) (t) (au:aL->aD I) (ok:D.Ok) (kA:D.rJ) (aI:n+1<=D.lvl):Pj D J t au (Rw (ex L k D.env.scope D.p) (c5 L k D.env.scope D.p) J au t):=λC R h=>by
 induction t with
 |nil=>exact ac8 h
 |cons t l=>exact ac9 ((ih.x D _ _ _ ok kA aI _ _ h).mono (λdQ aG e=>ih.xs D _ _ _ ok kA aI _ _ e) λU U e=>e)
theorem NO (h_:pJ L n) (iR:su L):∀k,JH L n k
 |0=>⟨λU U U U U U U U U h=>fK h,λU U U U U U U U U h=>fK h⟩
 |k+1=>have af:=NO h_ iR k;⟨λD J t au ok kA aI=>amm h_ iR af D J t au ok kA aI (Wa t),amn af⟩
end
section
theorem bz.less (B:bz D φ J C s) {bH:bl} (w:∀r o,bH r=some o->C.h r=some o):bz D φ J ⟨bH,C.k⟩ s:=
 ⟨B.keep,B.loc,B.l9,B.ny,B.own,B.inj,B.oV,B.fresh,λr o e=>B.obs r o (w r o e),B.gens,B.drawn,B.os⟩
theorem Ft {c:Nat} {p:ay} {a:Addr} {aa:List I} {q:I×bL} (e:body L p a aa C=some q):∃f eW,iA.lookup a=some f/\uQ a f aa=some eW/\c5 L 100 f.sc p f.body (qY f.sc eW) (λU=>ai .none) C=some q:=by
 unfold body at e
 cases bD:iA.lookup a with
 |some f=>
  rw[bD]at e
  dsimp only at e
  obtain⟨eW,aG,az,e⟩:=Fp e
  obtain⟨b,aP,aE⟩:=Df az
  nomatch aE
  exact⟨f,_,rfl,aP,e⟩
 |none=>rw[bD]at e;nomatch e
theorem amP {r:ay} (h:(k::p).isSuffixOf r=true):d_ p k r:=by
 obtain⟨t,e⟩:=List.isSuffixOf_iff_suffix.mp h
 exact⟨t,k,fu _,e.symm⟩
set_option tactic.hygienic true in
theorem Sw:∀c,pJ (aJ c) (2*c)/\su (aJ c)
 |0=>⟨λD φ J C s a aa eG q ok aI e=>(by nomatch e),λp a aa C q e=>(by nomatch e)⟩
 |c+1=>by
  obtain⟨ih,LB⟩:=Sw c
  refine⟨λD φ J C s a aa eG q ok aI e B rs=>?_,λp a aa C q e=>?_⟩
  .have key:∀{v:I} {aT:bL},body (aJ c) (C.k::D.p) a aa ⟨C.h,0⟩=some (v,aT)->codeAny (cX D) D.A (.call (.ref a) ⟨eG,[]⟩) (λr bW=>∃aO,r=.ok (.ret aO)/\d6 aZ D J φ C s (Is v ⟨aT.h,C.k+1⟩) aO bW) s:=λ{v aT} e=>by
    obtain⟨f,eW,bD,aP,e⟩:=Ft (c:=c) e
    refine abI ok (by omega) bD aP B rs λdi pg kA aR cA u_=>?_
    have ff:c5 (aJ c) 100 di.env.scope di.p f.body (qY f.sc eW) (λU=>ai .none) ⟨C.h,0⟩=some (v,aT):=by rw[aR,cA];exact e
    refine((NO ih LB 100).xs di _ _ _ pg kA (by omega) _ _ ff).mono (λdQ aG z=>?_) λw aG z=>?_
    .have z:=rq z;nomatch z;exact⟨rfl,rfl⟩
    .nomatch z;exact⟨rfl,rfl⟩
   unfold aJ at e
   split at e
   .unfold sub at e
    split at e
    .rename_i v aT aQ
     nomatch e
     exact key aQ
    .nomatch e
   .unfold Iu at e
    split at e
    .rename_i v aT aQ
     nomatch e
     refine xS (key aQ) λr bW p=>?_
     obtain⟨aO,rfl,b,cg,gf,l,bV,bU,rfl,rfl⟩:=p
     refine⟨aO,rfl,b,cg,_,⟨l.map,l.keep,l.new,jV _⟩,bV,bU.less λr o z=>?_,rfl,rfl⟩
     unfold jt at z
     split at z
     .rename_i Z
      obtain⟨a,aY,_⟩:=B.obs r o z
      rw[B.fresh r (amP Z)]at aY
      nomatch aY
     .exact z
    .nomatch e
  .unfold aJ at e
   split at e
   .unfold sub at e
    split at e
    .rename_i aQ
     obtain⟨f,eW,bD,_⟩:=Ft (c:=c) aQ
     exact⟨f,bD⟩
    .nomatch e
   .unfold Iu at e
    split at e
    .rename_i aQ
     obtain⟨f,eW,bD,_⟩:=Ft (c:=c) aQ
     exact⟨f,bD⟩
    .nomatch e
end
structure JI (w:World) (A:Around) (s:Shared) (kc dK:Str->Option Value) n (c9:Addr) (cN:Obj):Prop where
 room:x9 A (n+1)
 g:s.heap.Ns mainGlobals kc
 b:s.heap.Ns builtinsNs dK
 bv:∀x:Str,x≠"__name__"->dK x=bootBuiltins x
 nolimit:s.heap.NoLimit
 base:∀b o,(gR w.params).get? b=some o->s.heap.get? b=some o
 at_:s.heap.get? c9=some cN
 afj:sR cN=true
 im:f7 cN=false
 seq:∃eu k,cN.data=.seq eu k
noncomputable def D6 (cN:Obj):bL:=⟨λr=>if r=[]then some (.k4 cN)else none,0⟩
noncomputable def Wc (c9:Addr):dG:=λr=>if r=[]then some c9 else none
set_option tactic.hygienic true in
theorem D7 {r:ay} (h:Wc c9 r=some a):r=[]/\a=c9:=by
 unfold Wc at h;split at h
 .rename_i z;nomatch h;exact⟨z,rfl⟩
 .nomatch h
theorem ajo {h:Heap} (n:h.Ns d m) (e:h.get? d=some o) (l:∃eu n,o.data=.seq eu n):False:=by
 obtain⟨gM,ao,jo,ff,hd,_⟩:=n
 obtain⟨eu,k,q⟩:=l
 rw[e]at ff;nomatch ff
 rw[hd]at q;nomatch q
theorem amC {w:World} (T:JI w A s kc dK n c9 cN) (bD:iA.lookup a=some f) (aP:uQ a f [.ref []]=some eW) {Q:I->bL->Prop}
  (h:∀di:dU,di.Ok->di.rJ->di.env.scope=f.sc->di.p=[0]->di.lvl=n->oN di f.body (qY f.sc eW) ⟨(D6 cN).h,0⟩ (λU aG=>Q .none aG) (λv aG=>Q v aG)):
  codeAny (model c3 w) A (.call (.ref a) ⟨[.ref c9],[]⟩) (λq bW=>∃aO v cg aG,q=.ok (.ret aO)/\aZ cg bW.heap aO v/\Q v aG/\(∀b o,s.heap.get? b=some o->b≠c9->bW.heap.get? b=some o)/\cg []=some c9/\
   (∀r o,aG.h r=some o->∃a,cg r=some a/\nk w cg bW.heap a o)/\bW.gens=s.gens/\bW.os=s.os) s:=by
 have bI:∀b o,s.heap.get? b=some o->b≠c9->(hideAll s.heap [c9]).get? b=some o:=λb o e z=>EL _ e λq=>z (List.mem_singleton.mp q)
 have ns:∀{d m},s.heap.Ns d m->(hideAll s.heap [c9]).Ns d m:=λ{d m} q=>Ns.at' q λo e=>bI d o e λz=>ajo q (z▸T.at_) T.seq
 exact Qw ⟨λa o e=>T.base a o (S9 _ a o e),T.nolimit,T.room,ns T.g,ns T.b,T.bv,T.nolimit.elim λDr z=>⟨Dr,ns z.1,z.2⟩,
   λb o e z=>bI b o (T.base b o e) λq=>lP ((z.symm.trans (cJ sR (iH ((T.base b o e).symm.trans (q▸T.at_))))).trans T.afj),
   λr c e=>⟨List.mem_singleton.mpr (D7 e).2,(D7 e).2▸⟨cN,T.at_,T.im⟩⟩,λr bV c e ff=>(D7 e).1.trans (D7 ff).1.symm,⟨[c9],λr c e=>List.mem_singleton.mpr (D7 e).2⟩,
   λr e=>(by obtain⟨t,j,_,e⟩:=e;exact bX (by rw[e];simp)),
   λr o e=>(by
    by_cases z:r=[]
    .exact⟨c9,bT z,iH ((bT z).symm.trans e)▸T.at_⟩
    .exact fK ((bX z).symm.trans e)),rfl,rfl,rfl⟩
  bD aP (.cons (.ref (bT rfl)) .nil) h λenv br cg cz aT bW aO v lg fh l gG q=>
   ⟨aO,v,cg,aT,rfl,gG,q,λb o e z=>fh.keep b o (bI b o e z),l.map _ _ (bT rfl),fh.obs,fh.gens,fh.os⟩
theorem amD (T:JI w A s kc dK (2*c+1) c9 cN) (e:body (aJ c) [0] a [.ref []] ⟨(D6 cN).h,0⟩=some (v,aT)):
  codeAny (model c3 w) A (.call (.ref a) ⟨[.ref c9],[]⟩) (λq bW=>∃aO cg,q=.ok (.ret aO)/\aZ cg bW.heap aO v/\(∀b o,s.heap.get? b=some o->b≠c9->bW.heap.get? b=some o)/\cg []=some c9/\
   (∀r o,aT.h r=some o->∃a,cg r=some a/\nk w cg bW.heap a o)/\bW.gens=s.gens/\bW.os=s.os) s:=by
 obtain⟨ih,LB⟩:=Sw c
 obtain⟨f,eW,bD,aP,e⟩:=Ft (c:=c) e
 refine xS (amC (Q:=λaos aG=>aos=v/\aG=aT) T bD aP λdi pg kA aR cA u_=>?_) λq bW p=>?_
 .have ff:c5 (aJ c) 100 di.env.scope di.p f.body (qY f.sc eW) (λU=>ai .none) ⟨(D6 cN).h,0⟩=some (v,aT):=by rw[aR,cA];exact e
  refine((NO ih LB 100).xs di _ _ _ pg kA (by omega) _ _ ff).mono (λdQ aG z=>?_) λw aG z=>?_
  .have z:=rq z;nomatch z;exact⟨rfl,rfl⟩
  .nomatch z;exact⟨rfl,rfl⟩
 .obtain⟨aO,_,cg,_,az,aE,⟨rfl,rfl⟩,b8⟩:=p
  exact⟨aO,cg,az,aE,b8⟩
noncomputable abbrev MC:RowW:=PySem.Challenge.rw_nu0041_01.row.toRowW
def Pc:Prop:=∀cN l,sJ cN=some l->l.length<=63->∃aT,body (aJ 40) [0] 1385 [.ref []] ⟨(D6 cN).h,0⟩=some (.bool true,aT)/\aT.h []=some (.k4 cN)
noncomputable def JD (jN:Str->Option Addr) (h:Heap) (v:Value) (cS:List Addr):WData->Prop
 | .int i=>(∃t,v=.int i t)/\cS=[]
 | .list xs=>∃a o aa n eW,v=.ref a/\cS=a::eW/\h.get? a=some o/\o.cls=.type "list"/\o.data=.seq aa n/\ReadsAllW [] jN h aa.toList xs eW
 |_=>True
section
theorem Ig (r:ReadsW [] jN h v x cS):JD jN h v cS x:=by
 cases r with
 |int i t=>exact⟨⟨t,rfl⟩,rfl⟩
 |list az aE b8 cH=>exact⟨_,_,_,_,_,rfl,rfl,az,aE,b8,cH⟩
 |_=>exact trivial
theorem aee {P:WData->Prop} (p:WShape.has [] x .int=true) (k:∀i,P (.int i)):P x:=by
 cases x with
 |int i=>exact k i
 |_=>exact lP p
theorem aef {P:WData->Prop} (p:WShape.has [] x (.list .int)=true) (k:∀xs,WShape.hasItems [] xs .int=true->P (.list xs)):P x:=by
 cases x with
 |list xs=>exact k xs ((Jj _).symm.trans p)
 |_=>exact lP p
theorem alu {xs:List WData}:∀{aa:List Value} {cS:List Addr},ReadsAllW [] jN h aa xs cS->WShape.hasItems [] xs .int=true->∃l,xG aa=some l/\l.length=xs.length/\cS=[]:=by
 induction xs with
 |nil=>intro aa cS r _;cases r;exact⟨[],rfl,rfl,rfl⟩
 |cons x xs ih=>
  intro aa cS r e
  cases r with
  |@cons v aa _ _ cS eW a b=>
   have e:=Bool.and_eq_true_iff.mp (show(WShape.has [] x .int&&WShape.hasItems [] xs .int)=true from e)
   exact(ih b e.2).elim λl z=>aee (P:=λx=>JD jN h v cS x->∃l,xG (v::aa)=some l/\l.length=xs.length+1/\cS++eW=[]) e.1 (λi q=>q.1.elim λt DI=>⟨i::l,(cJ (λv=>xG (v::aa)) DI).trans (cJ (Option.map (i::·)) z.1),cJ Nat.succ z.2.1,by rw[q.2,z.2.2];rfl⟩) (Ig a)
theorem Yd {args:List WData} {P:Prop} (p:WShape.hasAll [] args [.list .int]=true) (r:ReadsAllW [] jN h vals args cS)
  (k:∀xs c9 cN eu n l,args=[.list xs]->vals=[.ref c9]->h.get? c9=some cN->cN.cls=.type "list"->cN.data=.seq eu n->xG eu.toList=some l->l.length=xs.length->P):P:=by
 rcases args with _|⟨x,args⟩
 .exact lP p
 .have p:=Bool.and_eq_true_iff.mp (show(WShape.has [] x (.list .int)&&WShape.hasAll [] args [])=true from p)
  induction args with
  |cons _ _=>exact lP p.2
  |nil=>
   cases r with
   |@cons v _ _ _ Yx _ a b=>
    cases b with
    |nil=>
     exact aef (P:=λx=>JD jN h v Yx x->(∀xs c9 cN eu n l,[x]=[.list xs]->[v]=[.ref c9]->h.get? c9=some cN->cN.cls=.type "list"->cN.data=.seq eu n->xG eu.toList=some l->l.length=xs.length->P)->P) p.1 (λxs bE q k=>by
      obtain⟨c9,cN,eu,n,eW,bk,bK,az,aE,b8,cH⟩:=q
      exact(alu cH bE).elim λl z=>k xs c9 cN eu n l rfl (cJ (λv=>[v]) bk) az aE b8 z.1 z.2.1) (Ig a) k
end
theorem ak5 (xs:List WData):MC.claim.post [.list xs] (.bool true) [.list xs]=true:=by
 have e:MC.claim.post [.list xs] (.bool true) [.list xs]=(WShape.has [] (.bool true) .bool&&WTm.holds [] (.eq .res (.lit (.bool true))) {args:=[.list xs],res:=some (.bool true),after:=[.list xs]}):=rfl
 rw[e]
 kernel_rfl
theorem ak7:PySem.Challenge.rw_nu0041_01.pre=.and (.not (.lt (.lit (.int 63)) (.len (.arg 0)))) (.lit (.bool true)):=rfl
theorem ak8 (h:PySem.Challenge.rw_nu0041_01.pre.holds [] {args:=[.list xs]}=true):xs.length<=63:=by
 rw[ak7]at h
 by_cases q:(63:Int)<xs.length
 .have bk:WTm.value [] (.lt (.lit (.int 63)) (.len (.arg 0))) {args:=[.list xs]}=some (.bool (decide ((63:Int)<xs.length))):=rfl
  have bK:WTm.value [] (.not (.lt (.lit (.int 63)) (.len (.arg 0)))) {args:=[.list xs]}=some (.bool false):=by
   unfold WTm.value;rw[bk,iU q];rfl
  unfold WTm.holds at h
  unfold WTm.value at h
  rw[bK]at h
  nomatch h
 .omega
theorem aox {XP:(Str->Option Value)->Heap->Prop} {d:DefRec} (hd:d.name="law") (P:Pc):
  WalkO q loose XP (λw h=>∀b o,(gR w.params).get? b=some o->h.get? b=some o) MC d apD λf aa=>PySem.call f aa:=by
 intro w eX br kc dK cZ Pn a o xo nu doc apl apB _ _ _ _ aex aem args vals cS Sk aev aQ eL bM
 have K:(gb w.params).In br.heap:=λa o e=>Pn a o (S9 _ a o e)
 have aY:a=1385:=by
  have e:nsIn (gb w.params) mainGlobals "law"=some (some (.ref 1385)):=by kernel_rfl
  exact Value.ref.inj (iH ((hd▸aex).symm.trans (mg_of K cZ.T.g e)))
 have cA:=Bool.and_eq_true_iff.mp (show(WShape.hasAll [] args [.list .int]&&PySem.Challenge.rw_nu0041_01.pre.holds [] {args:=args})=true from Sk)
 clear Sk aev eL bM
 refine Yd cA.1 aQ λxs c9 cN eu n l nw eK az aE b8 aet GF=>?_
 clear aQ
 subst nw eK aY
 have gD:=ak8 cA.2
 have dJ:f7 cN=false:=by unfold f7;rw[b8,aE];rfl
 refine(P cN l (by unfold sJ;rw[b8,aE];exact aet) (GF▸gD)).elim λaT e=>?_
 have T:JI w callerA br kc dK (2*40+1) c9 cN:=⟨⟨rfl,by decide,by decide⟩,cZ.T.g,cZ.T.b,cZ.T.builtins,cZ.T.nolimit,Pn,az,(by unfold sR;rw[aE];rfl),dJ,_,_,b8⟩
 refine wpAny_call (xS (amD T e.1) λr bW p=>p.elim λaO p=>p.elim λcg p=>?_)
 have keep:∀b o,br.heap.get? b=some o->bW.heap.get? b=some o:=λb o z=>if q:b=c9 then
   iH (az.symm.trans (q▸z))▸q▸(p.2.2.2.2.1 _ _ e.2).elim λa y=>iH (p.2.2.2.1.symm.trans y.1)▸y.2
  else p.2.2.1 b o z q
 rw[p.1,p.2.1.bool_inv]
 exact⟨.inl ⟨_,.bool true,[],rfl,λU=>rfl,.bool true,ak5 xs,λU=>⟨.nil,λa aY=>by cases aY⟩⟩,OldK.of_keep keep,p.2.2.2.2.2.2,.of_eq (p.2.2.2.2.2.1.trans aem)⟩
open lK
theorem alc:Pc:=λcN l aI hz=>by
 refine ala (n:=35) (p:=[0]) (h:=(D6 cN).h) rfl aI hz _ λm av bf ao rows dD X g a b jd d e bM cH fW kC aN cC lQ hd bE alp adO aoL aoJ aoI aoK=>?_
 have O:=XQ bM cH fW kC aN
 have Dd:∀y,X<=y->c7 (qt dD X [0] g) (y::[0]):=λy cM=>ajp bE cM
 have XJ:v_ (qt dD X [0] g) [0] m ao rows (mK av bf) X [] g (JA [0] av bf rows a b):=⟨rfl,by simp,⟨alp,adO⟩,λy cM=>zg (by cases dD<;>simp at bE<;>omega),rfl⟩
 obtain⟨J,C,bK,aS⟩:=aoe Dd cC O rfl XJ (.ref []) (.ref (0::2::[0])) jd (.ref (5::[0])) (.ref (0::6::[0])) .undef .undef .undef (A1 (aJ (35+5)) [0]) (d:=d) (by omega)
 cases aS with|mk BG w i aC bu bU d8 M=>
 obtain⟨aT,gJ,nv⟩:=agC (λy cM=>Dd y (by omega)) (λr aQ=>yy (t:=dD) (p:=[0]) aQ) aoL aoJ aoI aoK (by simp) bM cH fW lQ O (l:=aC) (by omega) M jd BG w i
 refine⟨aT,?_,nv⟩
 exact(e.trans bK).trans gJ
noncomputable abbrev y9:OpenLaw:=PySem.Challenge.rw_nu0041_01
noncomputable def yY:DefRec:=match NP 189 with
 | .FunctionDef n a b _ _ _ sc _ _ pos=>⟨n,a,b,sc,pos⟩
 |_=>⟨"",default,[],default,default⟩
theorem abH:defOf r8 "law"=some (yY,[]):=by kernel_rfl
theorem an2:c3.theDef "law"=some (yY.params,yY.body,yY.scope):=by kernel_rfl
theorem agz:kwWritten? yY.params.kwonlyargs yY.params.kw_defaults=some []:=by kernel_rfl
theorem ajX:(chainsOk r8&&opensWell c3&&(frees y9.row.toRowW&&y9.row.within.isEmpty))=true:=by kernel_rfl
theorem Z1:c3.bare:=⟨rfl,rfl,rfl,rfl,rfl,by decide+kernel⟩
theorem alb:y9.row.toRowW.promised:=⟨[.list []],by decide+kernel,by decide+kernel⟩
abbrev Po (w:World) (h:Heap):Prop:=∀b o,(gR w.params).get? b=some o->h.get? b=some o
theorem ael (alX:OpenLaw.wellSaid y9=true)
  (call:WalkO r8 xX (XL r8 []) Po y9.row.toRowW yY [] λf aa=>PySem.call f aa):y9.Holds:=
 holds_law alX λg6=>holds_open (r:=y9.row) (q:=r8) (loose:=xX) (Xt:=Fd) (XP:=XL r8 []) (Yf:=λs=>s.heap) (Ya:=λw=>gR w.params) (YP:=Po) (N:=9000) agV
  (λw s e b o h=>by have e:s.heap=gR w.params:=e;rw[e];exact h) (λw h bH y k b o e=>k b o (y b o e)) (λs e=>xl_of s (Bool.and_eq_true_iff.mp e).1) XL.keeps abH an2 agz
  (λs e=>recFacts_nil rfl) rfl g6 ajX Z1 alb call
end Mine
theorem PySem.Challenge.cw_nu0041_01_holds : PySem.Challenge.rw_nu0041_01.Holds := by
 exact Mine.ael Mine.alY (Mine.aox rfl Mine.alc)
