import PyProof.Rows.All
import OpenK.KLine
import ObjForm.ListNI
import Lean
import PySem.Challenge.RW_xm0312_01
set_option Elab.async false
set_option genSizeOf false
set_option genInjectivity false
set_option linter.all false
set_option maxRecDepth 100000
set_option maxHeartbeats 0
section
open PySem PySem.W PySem.Calls PyProof.Rows PySem.Spec
namespace Mine
noncomputable def JS:=@Nat.lt_of_lt_of_le
noncomputable def JT:=@Nat.le_trans
noncomputable def JU:=@Nat.le_add_right
noncomputable def JV:=@Nat.lt_of_le_of_lt
noncomputable def JW:=@Nat.add_le_add_left
noncomputable def JX:=@wpAny_bind
noncomputable def JY:=@Nat.lt_trans
noncomputable def JZ:=@List.getElem?_eq_getElem
noncomputable def J0:=@Nat.add_lt_add_left
noncomputable def J1:=@List.prefix_refl
noncomputable def J3:=@Nat.le_of_eq
noncomputable def J4:=@Option.some.inj
noncomputable def J5:=@Nat.ne_of_lt
noncomputable def J6:=@Bool.and_eq_true_iff
noncomputable def J7:=@wpAny_pure
noncomputable def J8:=@Nat.ne_of_gt
noncomputable def J9:=@of_decide_eq_true
noncomputable def Ka:=@List.getElem?_eq_some_iff
noncomputable def Kb:=@Nat.le_of_lt
noncomputable def Kc:=@Nat.lt_succ_self
noncomputable def Kd:=@Nat.le_refl
noncomputable def Ke:=@List.mem_map_of_mem
noncomputable def Kf:=@List.not_mem_nil
noncomputable def Kg:=@List.getElem?_concat_length
noncomputable def Kh:=@List.mem_of_getElem?
noncomputable def Ki:=@Nat.add_le_add_right
noncomputable def Kj:=@Nat.succ_le_succ
noncomputable def Kk:=@beq_iff_eq
noncomputable def Kl:=@List.forall_mem_cons
noncomputable def Km:=@List.length_map
noncomputable def Kn:=@wpAny_mono
noncomputable def Ko:=@List.mem_singleton
noncomputable def Kp:=@Int.natCast_nonneg
noncomputable def Kq:=@wpAny_holding
noncomputable def Kr:=@Nat.lt_succ_of_lt
noncomputable def Ks:=@Nat.lt_add_right
noncomputable def Kt:=@Nat.le_succ
noncomputable def Ku:=@List.prefix_append
noncomputable def Kv:=@Nat.add_lt_add_right
noncomputable def Kw:=@Nat.zero_le
noncomputable def Kx:=@Nat.le_of_succ_le
noncomputable def Ky:=@List.mem_cons_self
noncomputable def Kz:=@Nat.succ_lt_succ
noncomputable def KB:=@List.mem_map
noncomputable def KC:=@List.all_eq_true
noncomputable def KD:=@Nat.lt_add_of_pos_right
noncomputable def KE:=@List.nodup_cons
noncomputable def KF:=@List.getElem_mem
noncomputable def KG:=@List.mem_cons
noncomputable def KI:=@wpAny_standAt
noncomputable def KJ:=@Nat.mul_le_mul_left
noncomputable def KK:=@List.mem_cons_of_mem
noncomputable def KL:=@List.nodup_nil
noncomputable def KM:=@Nat.ne_of_beq_eq_false
noncomputable def KN:=@List.mem_iff_getElem?
noncomputable def KO:=@Int.le_trans
noncomputable def KP:=@Int.ofNat_le
noncomputable def KQ:=@Nat.le_succ_of_le
noncomputable def KS:=@List.mem_append_right
noncomputable def KT:=@List.getElem?_of_mem
noncomputable def KU:=@Nat.lt_of_succ_lt
noncomputable def KV:=@Nat.le_of_lt_succ
noncomputable def KW:=@Bool.eq_iff_iff
noncomputable def KX:=@Nat.lt_of_lt_of_eq
noncomputable def KY:=@List.mem_append
noncomputable def KZ:=@decide_eq_true
noncomputable def K0:=@Nat.le_of_succ_le_succ
noncomputable def K2:=@Nat.mod_lt
noncomputable def K3:=@decide_eq_false
noncomputable def K4:=@Nat.le_of_ble_eq_true
noncomputable def K5:=@Int.ofNat.inj
noncomputable def K6:=@Nat.not_succ_le_zero
noncomputable def K7:=@List.map_congr_left
noncomputable def K8:=@Int.eq_ofNat_of_zero_le
noncomputable def K9:=@Int.lt_of_le_of_lt
noncomputable def Lb:=@List.nodup_append
noncomputable def Lc:=@List.getElem?_eq_none
noncomputable def Le:=@List.getElem?_toArray
noncomputable def Lf:=@decide_eq_decide
noncomputable def Lg:=@List.isEmpty_iff
noncomputable def Lh:=@Nat.add_assoc
noncomputable def Li:=@Bool.or_eq_true_iff
noncomputable def Lj:=@Nat.add_left_cancel
noncomputable def Lk:=@List.getElem?_append_left
noncomputable def Ll:=@List.length_append
noncomputable def Lm:=@Int.ofNat_lt
noncomputable def Ln:=@Nat.add_right_comm
noncomputable def Lo:=@List.cons.inj
noncomputable def Lp:=@List.mem_flatMap
noncomputable def Lq:=@Nat.succ.inj
noncomputable def Lr:=@Bool.or_eq_false_iff
noncomputable def Lu:=@Nat.lt_or_ge
noncomputable def Lv:=@Bool.false_ne_true
noncomputable def Lw:=@Nat.lt_irrefl
noncomputable def Ly:=@Int.ofNat_sub
noncomputable abbrev pw:Program:=PySem.Challenge.pw_xm0312_01
noncomputable abbrev vN:Value:=.none
noncomputable abbrev vB (b:Bool):Value:=.bool b
noncomputable abbrev vI (i:Int):Value:=.int i 0
noncomputable abbrev vJ (i:Int) (t:Nat):Value:=.int i t
noncomputable abbrev vS (s:String) (t:Nat):Value:=.str (Str.ofString s) t
noncomputable abbrev vT (s:String):Value:=.type s
noncomputable abbrev vU (s:String):Value:=.builtin s
noncomputable abbrev vR (a:Nat):Value:=.ref a
noncomputable abbrev dQ (l:List Value) (n:Nat):Data:=.seq l.toArray n
noncomputable abbrev dD (l:List DictEntry) (n:Nat):Data:=.dict l.toArray n
noncomputable abbrev dF (l:List Value):Data:=.fields l.toArray
noncomputable abbrev en (p:Params) (s:String) (t:Nat) (v:Value):DictEntry:=⟨PyData.keyHash p (Str.ofString s),.str (Str.ofString s) t,v⟩
noncomputable def sA (i:Nat):Stmt:=(pw.main.body[i]?).getD (.Pass ⟨0,0,0,0⟩)
noncomputable def sM (i j:Nat):Stmt:=match sA i with
 | .ClassDef _ _ _ b _ _ _ _ _ _ _=>(b[j]?).getD (.Pass ⟨0,0,0,0⟩)
 |_=>.Pass ⟨0,0,0,0⟩
noncomputable def AK:Stmt→Arguments
 | .FunctionDef _ a _ _ _ _ _ _ _ _=>a
 |_=>⟨[],[],none,[],[],none,[]⟩
noncomputable def AJ:Stmt→List Stmt
 | .FunctionDef _ _ b _ _ _ _ _ _ _=>b
 |_=>[]
noncomputable def xV:Stmt→Scope
 | .FunctionDef _ _ _ _ _ _ s _ _ _=>s
 |_=>pw.main.scope
noncomputable abbrev dU (s:Stmt) (name qual:String) (g:Nat) (pm code:Value) (b:Nat):Data:=
 .func {name:=Str.ofString name,qualname:=Str.ofString qual,params:=AK s,body:=.stmts (AJ s),scope:=xV s,globals:=g,closure:=[],defaults:=.none,kwdefaults:=.none,doc:=.none,pyModule:=pm,annotations:=none,code:=code,closureTuple:=.none,builtins:=b}
noncomputable abbrev dC (name:String) (bases mro:List Value) (ns:Nat) (qual:String) (subs:List Value):Data:=
 .cls {name:=Str.ofString name,bases:=bases,mro:=mro,ns:=ns,qualname:=Str.ofString qual,subclasses:=subs}
noncomputable abbrev oB (c:Value) (d:Data):Obj:={cls:=c,dict:=none,data:=d,slots:=#[]}
noncomputable abbrev oA (c:Value) (dx:Option Addr) (d:Data) (sl:List (Option Value)):Obj:={cls:=c,dict:=dx,data:=d,slots:=sl.toArray}
noncomputable def gW (t:BT) (l:List (Nat×Obj)):BT:=l.foldl (λ t x=>t.ins x.1 x.2) t
noncomputable abbrev tu (l:List Value):Obj:=oB (vT "tuple") (dQ l 0)
noncomputable abbrev di (d:Data):Obj:=oB (vT "dict") d
noncomputable def ss:Nat→List String→List Value
 |_,[]=>[]
 |t,s::l=>vS s t::ss (t+1) l
noncomputable def JK (l:List (Nat×Nat×Nat×Nat)) (n:Nat):Obj:=di (dD (l.map λ x=>⟨x.1,vJ x.1 x.2.1,vJ x.2.2.1 x.2.2.2⟩) n)
noncomputable def ma:Obj:=oB (vT "builtin_function_or_method") (dF [vU "type.__prepare__",vT "type"])
noncomputable def mj (a:Nat):Obj:=oB (vT "builtin_function_or_method") (dF [vU "object.__init_subclass__",vR a])
noncomputable def yD (a:Nat):Obj:=oB (vT "super") (dF [vR a,vR a,vR a])
noncomputable def CC (t a:Nat):Obj:=oB (vT "getset_descriptor") (dF [vS "__dict__" t,vR a,vU "function.__dict__",vU "function.__dict__#set"])
noncomputable def AG (t a:Nat):Obj:=oB (vT "getset_descriptor") (dF [vS "__weakref__" t,vR a,vU "ExceptionGroup.__weakref__",vN])
noncomputable def HR (t:Nat):Value:=vS "/claim/cut.py" t
noncomputable def fI (n:String) (t l r:Nat):Obj:=oB (vT "code") (dF [vS n t,vS n (t+1),HR (t+2),vI l,vI 0,vI 0,vI 0,vI 0,vR r,vB false,vI 181,vR (r+1),vN,vN,vN,vN,vI (t+3),vI l,HR (t+4)])
structure FR where
 a:Nat
 s:Stmt
 n:String
 q:String
 m:Value
 t:Nat
 l:Nat
 k:Nat
 v:List String
noncomputable def FR.cd (f:FR) (x y:Value) (i:Nat):Obj:=oB (vT "code") (dF [vS f.n f.t,vS f.q (f.t+1),HR (f.t+2),vI f.l,vI f.k,vI 0,vI 0,vI 3,vR f.a,vB true,vI 181,vR (f.a+1),vN,x,y,vR (f.a+i),vI (f.t+3+f.v.length),vI f.l,HR (f.t+4+f.v.length)])
noncomputable def FR.g (f:FR) (i:Nat):Obj:=oB (vT "function") (dU f.s f.n f.q 3 f.m (vR (f.a+i)) 0)
noncomputable def FR.d (f:FR):Obj:=oB vN (dU f.s f.n f.q 0 vN vN 0)
noncomputable def FR.c (f:FR):Obj:=f.cd (vR (f.a+2)) (vR (f.a+3)) 4
noncomputable def FR.c' (f:FR):Obj:=f.cd vN vN 2
noncomputable def FR.f (f:FR):Obj:=f.g 5
noncomputable def FR.f' (f:FR):Obj:=f.g 3
noncomputable def FR.o (f:FR):List (Nat×Obj):=[(f.a,tu []),(f.a+1,oB vN (dF [])),(f.a+2,tu (ss (f.t+3) f.v)),(f.a+3,tu []),(f.a+4,f.d),(f.a+5,f.c),(f.a+6,f.f)]
noncomputable def FR.o' (f:FR):List (Nat×Obj):=[(f.a,tu []),(f.a+1,oB vN (dF [])),(f.a+2,f.d),(f.a+3,f.c'),(f.a+4,f.f')]
noncomputable def m1:Value:=vS "framerune.faults" 189
noncomputable def m2:Value:=vS "framerune.kinds" 254
noncomputable def m3:Value:=vS "framerune.ops" 508
noncomputable def m4:Value:=vS "framerune.store" 794
noncomputable def m5:Value:=vS "framerune.samedefs" 1216
noncomputable def m6:Value:=vS "law_xm0312_01" 1441
noncomputable def G3 (p:Params):List DictEntry:=[en p "__doc__" 166 vN,en p "__package__" 167 vN,en p "__loader__" 168 (vU "__main__.__loader__#opaque"),en p "__spec__" 169 vN,en p "__annotations__" 170 (vR 6),en p "__builtins__" 171 (vR 4),en p "__file__" 173 (vS "/claim/cut.py" 172),en p "__cached__" 174 vN,en p "EC_CATCH" 188 (vJ 0 187),en p "RuneError" 221 (vR 31),en p "BadImage" 237 (vR 44),en p "BadKind" 253 (vR 56),en p "VOID" 257 (vJ 0 256),en p "BOOL" 259 (vJ 1 258),en p "CHAR" 261 (vJ 2 260),en p "I1" 263 (vJ 3 262),en p "U1" 265 (vJ 4 264),en p "I2" 267 (vJ 5 266),en p "U2" 269 (vJ 6 268),en p "I4" 271 (vJ 7 270),en p "U4" 273 (vJ 8 272),en p "I8" 275 (vJ 9 274),en p "U8" 277 (vJ 10 276),en p "NINT" 279 (vJ 11 278),en p "OBJECT" 281 (vJ 12 280),en p "STRING" 283 (vJ 13 282),en p "NULLK" 285 (vJ 14 284),en p "PRIM_END" 287 (vJ 16 286),en p "R_PRIM" 289 (vJ 1 288),en p "R_CLASS" 291 (vJ 2 290),en p "R_VALUE" 293 (vJ 3 292),en p "R_ARRAY" 295 (vJ 4 294),en p "R_BYREF" 297 (vJ 5 296),en p "R_VAR" 299 (vJ 6 298),en p "R_MVAR" 301 (vJ 7 300),en p "R_BOXED" 303 (vJ 8 302),en p "R_ROREF" 305 (vJ 9 304),en p "R_FTN" 307 (vJ 10 306),en p "R_RAW" 309 (vJ 11 308),en p "DEEPEST_KIND" 311 (vJ 24 310),en p "HEAVIEST_KIND" 313 (vJ 4096 312),en p "TID_PRIM" 342 (vR 59),en p "KindTable" 399 (vR 90),en p "inner_kinds" 407 (vR 101),en p "row_level" 414 (vR 108),en p "row_length" 421 (vR 115),en p "check_kind_row" 431 (vR 122),en p "check_named" 439 (vR 129),en p "check_args" 448 (vR 136),en p "may_stand" 457 (vR 143),en p "class_kind" 466 (vR 150),en p "prim_kind" 474 (vR 157),en p "array_kind" 482 (vR 164),en p "var_kind" 490 (vR 171),en p "is_value" 498 (vR 178),en p "is_var" 507 (vR 185),en p "SO_NONE" 511 (vJ 0 510),en p "SO_I4" 513 (vJ 1 512),en p "SO_I8" 515 (vJ 2 514),en p "SO_ARG" 517 (vJ 3 516),en p "SO_LOCAL" 519 (vJ 4 518),en p "SO_BRANCH" 521 (vJ 5 520),en p "SO_SWITCH" 523 (vJ 6 522),en p "SO_KIND" 525 (vJ 7 524),en p "SO_FIELD" 527 (vJ 8 526),en p "SO_METHOD" 529 (vJ 9 528),en p "SO_TEXT" 531 (vJ 10 530),en p "SO_TOKEN" 533 (vJ 11 532),en p "OP_SORT" 786 (vR 186),en p "op_sort" 793 (vR 200),en p "S_CLASS" 797 (vJ 1 796),en p "S_STRUCT" 799 (vJ 2 798),en p "S_IFACE" 801 (vJ 3 800),en p "S_DELEGATE" 803 (vJ 4 802),en p "S_ENUM" 805 (vJ 5 804),en p "TF_ABSTRACT" 807 (vJ 1 806),en p "TF_SEALED" 809 (vJ 2 808),en p "VA_NONE" 811 (vJ 0 810),en p "MF_STATIC" 813 (vJ 1 812),en p "MF_VIRTUAL" 815 (vJ 2 814),en p "MF_NEWSLOT" 817 (vJ 4 816),en p "MF_CTOR" 819 (vJ 32 818),en p "MF_CCTOR" 821 (vJ 64 820),en p "MF_SPECIAL" 823 (vJ 128 822),en p "T_OBJECT" 825 (vJ 1 824),en p "T_VALUETYPE" 827 (vJ 2 826),en p "T_ENUM" 829 (vJ 3 828),en p "T_DELEGATE" 831 (vJ 6 830),en p "TypeDef" 885 (vR 217),en p "FieldDef" 925 (vR 238),en p "MethodDef" 973 (vR 259),en p "Body" 1008 (vR 280),en p "Store" 1042 (vR 301),en p "plain_names" 1051 (vR 312),en p "new_asm" 1059 (vR 319),en p "usual_base" 1067 (vR 326),en p "sort_flags" 1075 (vR 333),en p "add_type" 1090 (vR 340),en p "add_field" 1104 (vR 347),en p "kept_flags" 1111 (vR 354),en p "add_method" 1126 (vR 361),en p "note_method" 1136 (vR 368),en p "set_generic" 1148 (vR 375),en p "set_body" 1164 (vR 382),en p "put_once" 1172 (vR 389),en p "add_impl" 1183 (vR 396),en p "add_prop" 1196 (vR 403),en p "add_event" 1208 (vR 410),en p "is_virtual" 1215 (vR 417),en p "LEAST_DEEP" 1219 (vJ 8 1218),en p "Paths" 1268 (vR 446),en p "same_defs" 1284 (vR 457),en p "asm_name" 1292 (vR 464),en p "own_types" 1298 (vR 469),en p "standing" 1307 (vR 476),en p "type_path" 1317 (vR 483),en p "learn_kind" 1329 (vR 490),en p "path_parts" 1337 (vR 497),en p "kind_path" 1346 (vR 504),en p "method_path" 1357 (vR 511),en p "method_name" 1366 (vR 518),en p "field_path" 1375 (vR 525),en p "member_name" 1385 (vR 532),en p "bound_rows" 1391 (vR 537),en p "type_told" 1397 (vR 542),en p "field_told" 1406 (vR 549),en p "method_told" 1417 (vR 556),en p "body_told" 1423 (vR 561),en p "clause_path" 1431 (vR 568),en p "operand_path" 1440 (vR 575),en p "_law_terms" 1454 (vR 576),en p "_law_heads" 1497 (vR 599),en p "_law_draw" 1508 (vR 606),en p "_law_members" 1524 (vR 613),en p "_law_one" 1534 (vR 620),en p "_law_described" 1549 (vR 627),en p "_law_swap" 1560 (vR 634),en p "_law_next" 1569 (vR 641),en p "_law_moved" 1580 (vR 648),en p "_law_other" 1589 (vR 655),en p "_law_turn" 1610 (vR 662),en p "_law_changed" 1621 (vR 669),en p "_law_once" 1630 (vR 676),en p "_law_alike" 1639 (vR 683),en p "_law_kind" 1648 (vR 690),en p "_law_make" 1654 (vR 695),en p "_law_lay" 1660 (vR 700),en p "_law_world" 1671 (vR 707),en p "_law_ask" 1682 (vR 714),en p "law" 1688 (vR 719)]
noncomputable def HE:List Value:=[vI 3,vI 0,vR 20,vI 8,vI 0,vR 40,vI 10,vI 0,vR 52,vI 43,vI 0,vR 65,vI 92,vI 0,vR 100,vI 101,vI 0,vR 107,vI 105,vI 0,vR 114,vI 111,vI 0,vR 121,vI 133,vI 0,vR 128,vI 137,vI 0,vR 135,vI 141,vI 0,vR 142,vI 146,vI 0,vR 149,vI 150,vI 0,vR 156,vI 154,vI 0,vR 163,vI 156,vI 0,vR 170,vI 158,vI 0,vR 177,vI 162,vI 0,vR 184,vI 179,vI 0,vR 199,vI 200,vI 0,vR 206,vI 226,vI 0,vR 227,vI 236,vI 0,vR 248,vI 253,vI 0,vR 269,vI 260,vI 0,vR 290,vI 270,vI 0,vR 311,vI 275,vI 0,vR 318,vI 278,vI 0,vR 325,vI 286,vI 0,vR 332,vI 292,vI 0,vR 339,vI 301,vI 0,vR 346,vI 307,vI 0,vR 353,vI 311,vI 0,vR 360,vI 318,vI 0,vR 367,vI 326,vI 0,vR 374,vI 337,vI 0,vR 381,vI 345,vI 0,vR 388,vI 348,vI 0,vR 395,vI 350,vI 0,vR 402,vI 352,vI 0,vR 409,vI 354,vI 0,vR 416,vI 358,vI 0,vR 423,vI 375,vI 0,vR 456,vI 389,vI 0,vR 463,vI 393,vI 0,vR 468,vI 395,vI 0,vR 475,vI 399,vI 0,vR 482,vI 413,vI 0,vR 489,vI 424,vI 0,vR 496,vI 426,vI 0,vR 503,vI 437,vI 0,vR 510,vI 440,vI 0,vR 517,vI 447,vI 0,vR 524,vI 452,vI 0,vR 531,vI 458,vI 0,vR 536,vI 460,vI 0,vR 541,vI 471,vI 0,vR 548,vI 474,vI 0,vR 555,vI 481,vI 0,vR 560,vI 486,vI 0,vR 567,vI 490,vI 0,vR 574,vI 503,vI 0,vR 605,vI 509,vI 0,vR 612,vI 518,vI 0,vR 619,vI 522,vI 0,vR 626,vI 546,vI 0,vR 633,vI 553,vI 0,vR 640,vI 555,vI 0,vR 647,vI 559,vI 0,vR 654,vI 561,vI 0,vR 661,vI 596,vI 0,vR 668,vI 605,vI 0,vR 675,vI 611,vI 0,vR 682,vI 619,vI 0,vR 689,vI 629,vI 0,vR 694,vI 645,vI 0,vR 699,vI 669,vI 0,vR 706,vI 679,vI 0,vR 713,vI 683,vI 0,vR 718]
noncomputable def IH:FR:=⟨22,sM 2 0,"__init__","RuneError.__init__",m1,203,5,3,["self","code","at"]⟩
noncomputable def IG:FR:=⟨67,sM 36 0,"__init__","KindTable.__init__",m2,355,45,1,["self","number","row"]⟩
noncomputable def IF:FR:=⟨74,sM 36 1,"row","KindTable.row",m2,364,59,2,["self","k"]⟩
noncomputable def IE:FR:=⟨81,sM 36 2,"put","KindTable.put",m2,372,64,2,["self","row","found","depth","weight","opened","level","inner","k"]⟩
noncomputable def ID:FR:=⟨95,sA 37,"inner_kinds","inner_kinds",m2,400,92,1,["row","sort"]⟩
noncomputable def Eh:FR:=⟨102,sA 38,"row_level","row_level",m2,408,101,1,["sort"]⟩
noncomputable def Eg:FR:=⟨109,sA 39,"row_length","row_length",m2,415,105,1,["sort"]⟩
noncomputable def Ef:FR:=⟨116,sA 40,"check_kind_row","check_kind_row",m2,422,111,2,["kt","row","sort","inner"]⟩
noncomputable def Ee:FR:=⟨123,sA 41,"check_named","check_named",m2,432,133,2,["kt","row"]⟩
noncomputable def Ed:FR:=⟨130,sA 42,"check_args","check_args",m2,440,137,2,["kt","args","arg"]⟩
noncomputable def Ec:FR:=⟨137,sA 43,"may_stand","may_stand",m2,449,141,2,["kt","k","sort"]⟩
noncomputable def Eb:FR:=⟨144,sA 44,"class_kind","class_kind",m2,458,146,3,["kt","tid","args"]⟩
noncomputable def Ea:FR:=⟨151,sA 45,"prim_kind","prim_kind",m2,467,150,2,["tid","args"]⟩
noncomputable def DZ:FR:=⟨158,sA 46,"array_kind","array_kind",m2,475,154,2,["kt","elem"]⟩
noncomputable def DY:FR:=⟨165,sA 47,"var_kind","var_kind",m2,483,156,2,["kt","i"]⟩
noncomputable def DX:FR:=⟨172,sA 48,"is_value","is_value",m2,491,158,2,["kt","k"]⟩
noncomputable def DW:FR:=⟨179,sA 49,"is_var","is_var",m2,499,162,2,["kt","k","sort"]⟩
noncomputable def DV:FR:=⟨194,sA 64,"op_sort","op_sort",m3,787,179,1,["op"]⟩
noncomputable def DU:FR:=⟨208,sM 84 0,"__init__","TypeDef.__init__",m4,844,202,8,["self","tid","name","sort","flags","base","params","asm","word"]⟩
noncomputable def DQ:FR:=⟨229,sM 85 0,"__init__","FieldDef.__init__",m4,898,228,7,["self","fid","owner","name","kind","access","flags"]⟩
noncomputable def DP:FR:=⟨250,sM 86 0,"__init__","MethodDef.__init__",m4,938,238,8,["self","mid","owner","name","access","flags","ret","params"]⟩
noncomputable def DO:FR:=⟨271,sM 87 0,"__init__","Body.__init__",m4,986,255,5,["self","locals_","maxstack","code","clauses"]⟩
noncomputable def DN:FR:=⟨292,sM 88 0,"__init__","Store.__init__",m4,1021,262,1,["self"]⟩
noncomputable def DM:FR:=⟨306,sA 89,"plain_names","plain_names",m4,1043,270,1,["count","out","place"]⟩
noncomputable def DL:FR:=⟨313,sA 90,"new_asm","new_asm",m4,1052,275,2,["store","name"]⟩
noncomputable def DK:FR:=⟨320,sA 91,"usual_base","usual_base",m4,1060,278,2,["store","sort"]⟩
noncomputable def DJ:FR:=⟨327,sA 92,"sort_flags","sort_flags",m4,1068,286,2,["sort","flags"]⟩
noncomputable def DH:FR:=⟨334,sA 93,"add_type","add_type",m4,1076,292,7,["store","asm","name","sort","flags","base","params","tid","key"]⟩
noncomputable def DG:FR:=⟨341,sA 94,"add_field","add_field",m4,1091,301,6,["store","tid","name","kind","access","flags","t","fid"]⟩
noncomputable def DF:FR:=⟨348,sA 95,"kept_flags","kept_flags",m4,1105,307,1,["flags"]⟩
noncomputable def DE:FR:=⟨355,sA 96,"add_method","add_method",m4,1112,311,7,["store","tid","name","access","flags","ret","params","t","mid"]⟩
noncomputable def DD:FR:=⟨362,sA 97,"note_method","note_method",m4,1127,318,2,["store","mid","m","t"]⟩
noncomputable def DB:FR:=⟨369,sA 98,"set_generic","set_generic",m4,1137,326,4,["store","mid","gnames","gbounds","m","place"]⟩
noncomputable def DA:FR:=⟨376,sA 99,"set_body","set_body",m4,1149,337,6,["store","mid","locals_","maxstack","code","clauses","rows","ins","edges","clause"]⟩
noncomputable def Dz:FR:=⟨383,sA 100,"put_once","put_once",m4,1165,345,2,["rows","row"]⟩
noncomputable def Dy:FR:=⟨390,sA 101,"add_impl","add_impl",m4,1173,348,5,["store","tid","body_mid","decl_owner","decl_mid"]⟩
noncomputable def Dw:FR:=⟨397,sA 102,"add_prop","add_prop",m4,1184,350,7,["store","tid","name","kind","getter","setter","index_kinds"]⟩
noncomputable def Dv:FR:=⟨404,sA 103,"add_event","add_event",m4,1197,352,6,["store","tid","name","kind","adder","remover"]⟩
noncomputable def Du:FR:=⟨411,sA 104,"is_virtual","is_virtual",m4,1209,354,1,["m"]⟩
noncomputable def Dt:FR:=⟨425,sM 107 0,"__init__","Paths.__init__",m5,1232,360,4,["self","store","own","index","place"]⟩
noncomputable def Ds:FR:=⟨432,sM 107 1,"kind","Paths.kind",m5,1243,368,2,["self","k"]⟩
noncomputable def Dr:FR:=⟨439,sM 107 2,"kinds","Paths.kinds",m5,1251,373,2,[]⟩
noncomputable def Dq:FR:=⟨451,sA 108,"same_defs","same_defs",m5,1269,375,4,["store1","asm1","store2","asm2","own1","own2","index","paths1","paths2","place"]⟩
noncomputable def Dp:FR:=⟨458,sA 109,"asm_name","asm_name",m5,1285,389,2,["store","asm"]⟩
noncomputable def Do:FR:=⟨465,sA 110,"own_types","own_types",m5,1293,393,2,[]⟩
noncomputable def Dn:FR:=⟨470,sA 111,"standing","standing",m5,1299,395,3,["rows","n","word"]⟩
noncomputable def Dm:FR:=⟨477,sA 112,"type_path","type_path",m5,1308,399,2,["paths","tid","t","out"]⟩
noncomputable def Dl:FR:=⟨484,sA 113,"learn_kind","learn_kind",m5,1318,413,2,["paths","k","todo","at","inner","path"]⟩
noncomputable def Dk:FR:=⟨491,sA 114,"path_parts","path_parts",m5,1330,424,2,["paths","k"]⟩
noncomputable def Dj:FR:=⟨498,sA 115,"kind_path","kind_path",m5,1338,426,2,["paths","k","row"]⟩
noncomputable def Di:FR:=⟨505,sA 116,"method_path","method_path",m5,1347,437,2,["paths","mref","owner","mid","margs"]⟩
noncomputable def Dh:FR:=⟨512,sA 117,"method_name","method_name",m5,1358,440,2,["paths","mid","m"]⟩
noncomputable def Dg:FR:=⟨519,sA 118,"field_path","field_path",m5,1367,447,2,["paths","fref","f"]⟩
noncomputable def Df:FR:=⟨526,sA 119,"member_name","member_name",m5,1376,452,2,["paths","mid","m","owner"]⟩
noncomputable def Dd:FR:=⟨533,sA 120,"bound_rows","bound_rows",m5,1386,458,2,[]⟩
noncomputable def Dc:FR:=⟨538,sA 121,"type_told","type_told",m5,1392,460,2,[]⟩
noncomputable def Db:FR:=⟨543,sA 122,"field_told","field_told",m5,1398,471,2,["paths","fid","f"]⟩
noncomputable def Da:FR:=⟨550,sA 123,"method_told","method_told",m5,1407,474,2,["paths","mid","m","head","sig"]⟩
noncomputable def C0:FR:=⟨557,sA 124,"body_told","body_told",m5,1418,481,2,[]⟩
noncomputable def CZ:FR:=⟨562,sA 125,"clause_path","clause_path",m5,1424,486,2,["paths","row"]⟩
noncomputable def CY:FR:=⟨569,sA 126,"operand_path","operand_path",m5,1432,490,3,["paths","sort","operand"]⟩
noncomputable def CX:FR:=⟨600,sA 130,"_law_draw","_law_draw",m6,1498,503,2,["w","n","nums","i","k"]⟩
noncomputable def CW:FR:=⟨607,sA 131,"_law_members","_law_members",m6,1509,509,4,["w","menu","words","many","first","stride","out","j","name","row"]⟩
noncomputable def CV:FR:=⟨614,sA 132,"_law_one","_law_one",m6,1525,518,2,["w","d","t","rows"]⟩
noncomputable def CU:FR:=⟨621,sA 133,"_law_described","_law_described",m6,1535,522,1,["w","d","t","sort","row","j","of","rows","term"]⟩
noncomputable def CT:FR:=⟨628,sA 134,"_law_swap","_law_swap",m6,1550,546,2,["w","rows","i","j","row"]⟩
noncomputable def CR:FR:=⟨635,sA 135,"_law_next","_law_next",m6,1561,553,3,["w","rows","member"]⟩
noncomputable def CQ:FR:=⟨642,sA 136,"_law_moved","_law_moved",m6,1570,555,5,["w","d","sort","t","member"]⟩
noncomputable def CP:FR:=⟨649,sA 137,"_law_other","_law_other",m6,1581,559,3,["w","d","one"]⟩
noncomputable def CO:FR:=⟨656,sA 138,"_law_turn","_law_turn",m6,1590,561,3,["w","d","way","at","sort","t","arg","member","body","of","rows","name","term","one","two"]⟩
noncomputable def CN:FR:=⟨663,sA 139,"_law_changed","_law_changed",m6,1611,596,2,["w","d","c","key","j"]⟩
noncomputable def CM:FR:=⟨670,sA 140,"_law_once","_law_once",m6,1622,605,1,["rows","out","row"]⟩
noncomputable def CL:FR:=⟨677,sA 141,"_law_alike","_law_alike",m6,1631,611,2,["c","d","key"]⟩
noncomputable def CK:FR:=⟨684,sA 142,"_law_kind","_law_kind",m6,1640,619,3,["kt","own","term"]⟩
noncomputable def CJ:FR:=⟨691,sA 143,"_law_make","_law_make",m6,1649,629,6,[]⟩
noncomputable def CI:FR:=⟨696,sA 144,"_law_lay","_law_lay",m6,1655,645,4,[]⟩
noncomputable def CH:FR:=⟨701,sA 145,"_law_world","_law_world",m6,1661,669,1,["junk","store","asm","j","tid"]⟩
noncomputable def CG:FR:=⟨708,sA 146,"_law_ask","_law_ask",m6,1672,679,5,["w","a","x","b","y"]⟩
noncomputable def CF:FR:=⟨715,sA 147,"law","law",m6,1683,683,1,[]⟩
noncomputable def w8 (p:Params):Obj:=di (dD (en p "__name__" 165 m6::(G3 p).take 150) 151)
noncomputable def w7 (p:Params):Obj:=di (dD [en p "__module__" 198 m1,en p "__firstlineno__" 202 (vJ 3 201),en p "__init__" 211 (vR 28),en p "__static_attributes__" 214 (vR 29),en p "__weakref__" 216 (vR 32),en p "__doc__" 217 vN] 3)
noncomputable def w6 (p:Params):Obj:=oA (vT "type") none (dC "RuneError" [vT "Exception"] [vR 31,vT "Exception",vT "BaseException",vT "object"] 30 "RuneError" [vR 44,vR 56]) [some (vR 15),none,some (vS "RuneError" 191),some (vS "RuneError" 199),some (vU "Exception.__new__"),some (vB true)]
noncomputable def w5 (p:Params):Obj:=di (dD [en p "__module__" 229 m1,en p "__firstlineno__" 233 (vJ 8 232),en p "__static_attributes__" 234 (vR 42),en p "__doc__" 235 vN] 2)
noncomputable def wZ (p:Params):Obj:=oA (vT "type") none (dC "BadImage" [vR 31] [vR 44,vR 31,vT "Exception",vT "BaseException",vT "object"] 43 "BadImage" []) [some (vR 35),none,some (vS "BadImage" 222),some (vS "BadImage" 230),some (vU "Exception.__new__"),some (vB true)]
noncomputable def wY (p:Params):Obj:=di (dD [en p "__module__" 245 m1,en p "__firstlineno__" 249 (vJ 10 248),en p "__static_attributes__" 250 (vR 54),en p "__doc__" 251 vN] 2)
noncomputable def wX (p:Params):Obj:=oA (vT "type") none (dC "BadKind" [vR 31] [vR 56,vR 31,vT "Exception",vT "BaseException",vT "object"] 55 "BadKind" []) [some (vR 47),none,some (vS "BadKind" 238),some (vS "BadKind" 246),some (vU "Exception.__new__"),some (vB true)]
noncomputable def wW (p:Params):Obj:=di (dD [⟨20,vJ 20 314,(vJ 0 256)⟩,⟨9,vJ 9 315,(vJ 1 258)⟩,⟨10,vJ 10 316,(vJ 2 260)⟩,⟨11,vJ 11 317,(vJ 3 262)⟩,⟨12,vJ 12 318,(vJ 4 264)⟩,⟨13,vJ 13 319,(vJ 5 266)⟩,⟨14,vJ 14 320,(vJ 6 268)⟩,⟨15,vJ 15 321,(vJ 7 270)⟩,⟨16,vJ 16 322,(vJ 8 272)⟩,⟨17,vJ 17 323,(vJ 9 274)⟩,⟨18,vJ 18 324,(vJ 10 276)⟩,⟨19,vJ 19 325,(vJ 11 278)⟩,⟨1,vJ 1 326,(vJ 12 280)⟩,⟨4,vJ 4 327,(vJ 13 282)⟩] 14)
noncomputable def wV (p:Params):Obj:=di (dD [en p "__module__" 350 m2,en p "__firstlineno__" 354 (vJ 43 353),en p "__init__" 363 (vR 73),en p "row" 371 (vR 80),en p "put" 386 (vR 87),en p "__static_attributes__" 392 (vR 88),en p "__dict__" 394 (vR 91),en p "__weakref__" 396 (vR 92),en p "__doc__" 397 vN] 4)
noncomputable def wU (p:Params):Obj:=oA (vT "type") none (dC "KindTable" [vT "object"] [vR 90,vT "object"] 89 "KindTable" []) [none,none,some (vS "KindTable" 343),some (vS "KindTable" 351),some (vU "object.__new__"),some (vB true)]
noncomputable def t8 (p:Params):Obj:=di (dD [⟨0,vJ 0 534,(vJ 0 510)⟩,⟨20,vJ 20 536,(vJ 0 510)⟩,⟨32,vJ 32 538,(vJ 1 512)⟩,⟨33,vJ 33 540,(vJ 2 514)⟩,⟨37,vJ 37 542,(vJ 0 510)⟩,⟨38,vJ 38 544,(vJ 0 510)⟩,⟨40,vJ 40 546,(vJ 9 528)⟩,⟨42,vJ 42 548,(vJ 0 510)⟩,⟨56,vJ 56 550,(vJ 5 520)⟩,⟨57,vJ 57 552,(vJ 5 520)⟩,⟨58,vJ 58 554,(vJ 5 520)⟩,⟨59,vJ 59 556,(vJ 5 520)⟩,⟨60,vJ 60 558,(vJ 5 520)⟩,⟨61,vJ 61 560,(vJ 5 520)⟩,⟨62,vJ 62 562,(vJ 5 520)⟩,⟨63,vJ 63 564,(vJ 5 520)⟩,⟨64,vJ 64 566,(vJ 5 520)⟩,⟨65,vJ 65 568,(vJ 5 520)⟩,⟨66,vJ 66 570,(vJ 5 520)⟩,⟨67,vJ 67 572,(vJ 5 520)⟩,⟨68,vJ 68 574,(vJ 5 520)⟩,⟨69,vJ 69 576,(vJ 6 522)⟩,⟨70,vJ 70 578,(vJ 0 510)⟩,⟨71,vJ 71 580,(vJ 0 510)⟩,⟨72,vJ 72 582,(vJ 0 510)⟩,⟨73,vJ 73 584,(vJ 0 510)⟩,⟨74,vJ 74 586,(vJ 0 510)⟩,⟨75,vJ 75 588,(vJ 0 510)⟩,⟨76,vJ 76 590,(vJ 0 510)⟩,⟨77,vJ 77 592,(vJ 0 510)⟩,⟨80,vJ 80 594,(vJ 0 510)⟩,⟨81,vJ 81 596,(vJ 0 510)⟩,⟨82,vJ 82 598,(vJ 0 510)⟩,⟨83,vJ 83 600,(vJ 0 510)⟩,⟨84,vJ 84 602,(vJ 0 510)⟩,⟨85,vJ 85 604,(vJ 0 510)⟩,⟨88,vJ 88 606,(vJ 0 510)⟩,⟨89,vJ 89 608,(vJ 0 510)⟩,⟨90,vJ 90 610,(vJ 0 510)⟩,⟨91,vJ 91 612,(vJ 0 510)⟩,⟨92,vJ 92 614,(vJ 0 510)⟩,⟨93,vJ 93 616,(vJ 0 510)⟩,⟨94,vJ 94 618,(vJ 0 510)⟩,⟨95,vJ 95 620,(vJ 0 510)⟩,⟨96,vJ 96 622,(vJ 0 510)⟩,⟨97,vJ 97 624,(vJ 0 510)⟩,⟨98,vJ 98 626,(vJ 0 510)⟩,⟨99,vJ 99 628,(vJ 0 510)⟩,⟨100,vJ 100 630,(vJ 0 510)⟩,⟨101,vJ 101 632,(vJ 0 510)⟩,⟨102,vJ 102 634,(vJ 0 510)⟩,⟨103,vJ 103 636,(vJ 0 510)⟩,⟨104,vJ 104 638,(vJ 0 510)⟩,⟨105,vJ 105 640,(vJ 0 510)⟩,⟨106,vJ 106 642,(vJ 0 510)⟩,⟨109,vJ 109 644,(vJ 0 510)⟩,⟨110,vJ 110 646,(vJ 0 510)⟩,⟨111,vJ 111 648,(vJ 9 528)⟩,⟨113,vJ 113 650,(vJ 7 524)⟩,⟨114,vJ 114 652,(vJ 10 530)⟩,⟨115,vJ 115 654,(vJ 9 528)⟩,⟨116,vJ 116 656,(vJ 7 524)⟩,⟨117,vJ 117 658,(vJ 7 524)⟩,⟨121,vJ 121 660,(vJ 7 524)⟩,⟨122,vJ 122 662,(vJ 0 510)⟩,⟨123,vJ 123 664,(vJ 8 526)⟩,⟨124,vJ 124 666,(vJ 8 526)⟩,⟨125,vJ 125 668,(vJ 8 526)⟩,⟨126,vJ 126 670,(vJ 8 526)⟩,⟨127,vJ 127 672,(vJ 8 526)⟩,⟨128,vJ 128 674,(vJ 8 526)⟩,⟨129,vJ 129 676,(vJ 7 524)⟩,⟨130,vJ 130 678,(vJ 0 510)⟩,⟨131,vJ 131 680,(vJ 0 510)⟩,⟨132,vJ 132 682,(vJ 0 510)⟩,⟨133,vJ 133 684,(vJ 0 510)⟩,⟨134,vJ 134 686,(vJ 0 510)⟩,⟨135,vJ 135 688,(vJ 0 510)⟩,⟨136,vJ 136 690,(vJ 0 510)⟩,⟨137,vJ 137 692,(vJ 0 510)⟩,⟨140,vJ 140 694,(vJ 7 524)⟩,⟨141,vJ 141 696,(vJ 7 524)⟩,⟨142,vJ 142 698,(vJ 0 510)⟩,⟨143,vJ 143 700,(vJ 7 524)⟩,⟨163,vJ 163 702,(vJ 7 524)⟩,⟨164,vJ 164 704,(vJ 7 524)⟩,⟨165,vJ 165 706,(vJ 7 524)⟩,⟨179,vJ 179 708,(vJ 0 510)⟩,⟨180,vJ 180 710,(vJ 0 510)⟩,⟨181,vJ 181 712,(vJ 0 510)⟩,⟨182,vJ 182 714,(vJ 0 510)⟩,⟨183,vJ 183 716,(vJ 0 510)⟩,⟨184,vJ 184 718,(vJ 0 510)⟩,⟨185,vJ 185 720,(vJ 0 510)⟩,⟨186,vJ 186 722,(vJ 0 510)⟩,⟨208,vJ 208 724,(vJ 11 532)⟩,⟨209,vJ 209 726,(vJ 0 510)⟩,⟨210,vJ 210 728,(vJ 0 510)⟩,⟨211,vJ 211 730,(vJ 0 510)⟩,⟨214,vJ 214 732,(vJ 0 510)⟩,⟨215,vJ 215 734,(vJ 0 510)⟩,⟨216,vJ 216 736,(vJ 0 510)⟩,⟨217,vJ 217 738,(vJ 0 510)⟩,⟨218,vJ 218 740,(vJ 0 510)⟩,⟨219,vJ 219 742,(vJ 0 510)⟩,⟨220,vJ 220 744,(vJ 0 510)⟩,⟨221,vJ 221 746,(vJ 5 520)⟩,⟨223,vJ 223 748,(vJ 0 510)⟩,⟨65025,vJ 65025 750,(vJ 0 510)⟩,⟨65026,vJ 65026 752,(vJ 0 510)⟩,⟨65027,vJ 65027 754,(vJ 0 510)⟩,⟨65028,vJ 65028 756,(vJ 0 510)⟩,⟨65029,vJ 65029 758,(vJ 0 510)⟩,⟨65030,vJ 65030 760,(vJ 9 528)⟩,⟨65031,vJ 65031 762,(vJ 9 528)⟩,⟨65033,vJ 65033 764,(vJ 3 516)⟩,⟨65034,vJ 65034 766,(vJ 3 516)⟩,⟨65035,vJ 65035 768,(vJ 3 516)⟩,⟨65036,vJ 65036 770,(vJ 4 518)⟩,⟨65037,vJ 65037 772,(vJ 4 518)⟩,⟨65038,vJ 65038 773,(vJ 4 518)⟩,⟨65041,vJ 65041 774,(vJ 0 510)⟩,⟨65045,vJ 65045 775,(vJ 7 524)⟩,⟨65046,vJ 65046 776,(vJ 7 524)⟩,⟨65050,vJ 65050 777,(vJ 0 510)⟩,⟨65054,vJ 65054 778,(vJ 0 510)⟩] 126)
noncomputable def qT (p:Params):Obj:=di (dD [en p "__module__" 839 m4,en p "__firstlineno__" 843 (vJ 200 842),en p "__init__" 858 (vR 214),en p "__static_attributes__" 878 (vR 215),en p "__dict__" 880 (vR 218),en p "__weakref__" 882 (vR 219),en p "__doc__" 883 vN] 4)
noncomputable def qS (p:Params):Obj:=oA (vT "type") none (dC "TypeDef" [vT "object"] [vR 217,vT "object"] 216 "TypeDef" []) [none,none,some (vS "TypeDef" 832),some (vS "TypeDef" 840),some (vU "object.__new__"),some (vB true)]
noncomputable def qR (p:Params):Obj:=di (dD [en p "__module__" 893 m4,en p "__firstlineno__" 897 (vJ 226 896),en p "__init__" 910 (vR 235),en p "__static_attributes__" 918 (vR 236),en p "__dict__" 920 (vR 239),en p "__weakref__" 922 (vR 240),en p "__doc__" 923 vN] 4)
noncomputable def qQ (p:Params):Obj:=oA (vT "type") none (dC "FieldDef" [vT "object"] [vR 238,vT "object"] 237 "FieldDef" []) [none,none,some (vS "FieldDef" 886),some (vS "FieldDef" 894),some (vU "object.__new__"),some (vB true)]
noncomputable def qP (p:Params):Obj:=di (dD [en p "__module__" 933 m4,en p "__firstlineno__" 937 (vJ 236 936),en p "__init__" 951 (vR 256),en p "__static_attributes__" 966 (vR 257),en p "__dict__" 968 (vR 260),en p "__weakref__" 970 (vR 261),en p "__doc__" 971 vN] 4)
noncomputable def qO (p:Params):Obj:=oA (vT "type") none (dC "MethodDef" [vT "object"] [vR 259,vT "object"] 258 "MethodDef" []) [none,none,some (vS "MethodDef" 926),some (vS "MethodDef" 934),some (vU "object.__new__"),some (vB true)]
noncomputable def qN (p:Params):Obj:=di (dD [en p "__module__" 981 m4,en p "__firstlineno__" 985 (vJ 253 984),en p "__init__" 996 (vR 277),en p "__static_attributes__" 1001 (vR 278),en p "__dict__" 1003 (vR 281),en p "__weakref__" 1005 (vR 282),en p "__doc__" 1006 vN] 4)
noncomputable def qM (p:Params):Obj:=oA (vT "type") none (dC "Body" [vT "object"] [vR 280,vT "object"] 279 "Body" []) [none,none,some (vS "Body" 974),some (vS "Body" 982),some (vU "object.__new__"),some (vB true)]
noncomputable def qL (p:Params):Obj:=di (dD [en p "__module__" 1016 m4,en p "__firstlineno__" 1020 (vJ 260 1019),en p "__init__" 1027 (vR 298),en p "__static_attributes__" 1035 (vR 299),en p "__dict__" 1037 (vR 302),en p "__weakref__" 1039 (vR 303),en p "__doc__" 1040 vN] 4)
noncomputable def qK (p:Params):Obj:=oA (vT "type") none (dC "Store" [vT "object"] [vR 301,vT "object"] 300 "Store" []) [none,none,some (vS "Store" 1009),some (vS "Store" 1017),some (vU "object.__new__"),some (vB true)]
noncomputable def qJ (p:Params):Obj:=di (dD [en p "__module__" 1227 m5,en p "__firstlineno__" 1231 (vJ 358 1230),en p "__init__" 1242 (vR 431),en p "kind" 1250 (vR 438),en p "kinds" 1256 (vR 443),en p "__static_attributes__" 1261 (vR 444),en p "__dict__" 1263 (vR 447),en p "__weakref__" 1265 (vR 448),en p "__doc__" 1266 vN] 4)
noncomputable def qI (p:Params):Obj:=oA (vT "type") none (dC "Paths" [vT "object"] [vR 446,vT "object"] 445 "Paths" []) [none,none,some (vS "Paths" 1220),some (vS "Paths" 1228),some (vU "object.__new__"),some (vB true)]
noncomputable def qH (p:Params):Obj:=tu (ss 1443 ["i","u","s","Ai","As","Bi","L","T","aT","aAi","o"])
noncomputable def qG (p:Params):Obj:=tu []
noncomputable def qF (p:Params):Obj:=tu [vJ 0 1455,vJ 0 1456,vS "v" 1457,vR 577]
noncomputable def qE (p:Params):Obj:=tu []
noncomputable def qD (p:Params):Obj:=tu [vJ 0 1458,vJ 1 1459,vS "v" 1460,vR 579]
noncomputable def qC (p:Params):Obj:=tu []
noncomputable def qB (p:Params):Obj:=tu [vJ 0 1461,vJ 0 1462,vS "i" 1463,vR 581]
noncomputable def qA (p:Params):Obj:=tu []
noncomputable def qz (p:Params):Obj:=tu [vJ 1 1464,vJ 0 1465,vS "v" 1466,vR 583]
noncomputable def qy (p:Params):Obj:=tu [vS "i" 1470]
noncomputable def qx (p:Params):Obj:=tu [vJ 0 1467,vJ 0 1468,vS "v" 1469,vR 585]
noncomputable def qw (p:Params):Obj:=tu [vS "s" 1474]
noncomputable def qu (p:Params):Obj:=tu [vJ 0 1471,vJ 0 1472,vS "v" 1473,vR 587]
noncomputable def qt (p:Params):Obj:=tu (ss 1478 ["i","s"])
noncomputable def qr (p:Params):Obj:=tu [vJ 0 1475,vJ 0 1476,vS "v" 1477,vR 589]
noncomputable def qq (p:Params):Obj:=tu (ss 1483 ["s","i"])
noncomputable def qp (p:Params):Obj:=tu [vJ 0 1480,vJ 0 1481,vS "v" 1482,vR 591]
noncomputable def qo (p:Params):Obj:=tu [vS "Ai" 1488]
noncomputable def qn (p:Params):Obj:=tu [vJ 0 1485,vJ 0 1486,vS "v" 1487,vR 593]
noncomputable def qm (p:Params):Obj:=tu [vS "Bi" 1492]
noncomputable def ql (p:Params):Obj:=tu [vJ 0 1489,vJ 0 1490,vS "v" 1491,vR 595]
noncomputable def qk (p:Params):Obj:=tu [vS "aT" 1496]
noncomputable def qj (p:Params):Obj:=tu [vJ 0 1493,vJ 0 1494,vS "v" 1495,vR 597]
noncomputable def qi (p:Params):Obj:=tu [vR 578,vR 580,vR 582,vR 584,vR 586,vR 588,vR 590,vR 592,vR 594,vR 596,vR 598]
noncomputable def JR (p:Params):List (Nat×Obj):=[(11,tu []),(12,oB vN (dF (HE.take 0))),(13,fI "<module>" 182 1 11),(14,oA (vT "frame") none .plain [some (vR 13),some (vR 3),some (vR 3),none,some (vS "__main__" 164),none,some (vR 0)])]
noncomputable def IU (p:Params):List (Nat×Obj):=[(2,oB vN (dD [en p "type.__subclasses__.Exception.0" 218 (vI 31),en p "type.__subclasses__.Exception.n" 219 (vI 1)] 2)),(3,di (dD (en p "__name__" 165 m2::(G3 p).take 41) 42)),(12,oB vN (dF (HE.take 9))),(15,tu [vT "Exception"]),(16,ma),(17,di (dD [en p "__module__" 198 m1,en p "__qualname__" 200 (vS "RuneError" 199),en p "__firstlineno__" 202 (vJ 3 201),en p "__init__" 211 (vR 28),en p "__static_attributes__" 214 (vR 29)] 5)),(18,tu []),(19,oB vN (dF [vI 5,vI 4,vR 27])),(20,fI "RuneError" 193 3 18),(21,oA (vT "frame") none .plain [some (vR 20),some (vR 3),some (vR 17),none,some m1,none,some (vR 0)])]++(IH.o++([(29,tu (ss 212 ["at","code"])),(30,w7 p),(31,w6 p),(32,AG 215 31),(33,yD 31),(34,mj 31),(35,tu [vR 31]),(36,ma),(37,di (dD [en p "__module__" 229 m1,en p "__qualname__" 231 (vS "BadImage" 230),en p "__firstlineno__" 233 (vJ 8 232),en p "__static_attributes__" 234 (vR 42)] 4)),(38,tu []),(39,oB vN (dF [])),(40,fI "BadImage" 224 8 38),(41,oA (vT "frame") none .plain [some (vR 40),some (vR 3),some (vR 37),none,some m1,none,some (vR 0)]),(42,tu []),(43,w5 p),(44,wZ p),(45,yD 44),(46,mj 44),(47,tu [vR 31]),(48,ma),(49,di (dD [en p "__module__" 245 m1,en p "__qualname__" 247 (vS "BadKind" 246),en p "__firstlineno__" 249 (vJ 10 248),en p "__static_attributes__" 250 (vR 54)] 4)),(50,tu []),(51,oB vN (dF [])),(52,fI "BadKind" 240 10 50),(53,oA (vT "frame") none .plain [some (vR 52),some (vR 3),some (vR 49),none,some m1,none,some (vR 0)]),(54,tu []),(55,wY p),(56,wX p),(57,yD 56),(58,mj 56)]))
noncomputable def IT (p:Params):List (Nat×Obj):=[(3,di (dD (en p "__name__" 165 m2::(G3 p).take 42) 43)),(59,wW p)]
noncomputable def IR (p:Params):List (Nat×Obj):=[(3,di (dD (en p "__name__" 165 m3::(G3 p).take 68) 69)),(12,oB vN (dF (HE.take 51))),(60,tu []),(61,ma),(62,di (dD [en p "__module__" 350 m2,en p "__qualname__" 352 (vS "KindTable" 351),en p "__firstlineno__" 354 (vJ 43 353),en p "__init__" 363 (vR 73),en p "row" 371 (vR 80),en p "put" 386 (vR 87),en p "__static_attributes__" 392 (vR 88)] 7)),(63,tu []),(64,oB vN (dF [vI 45,vI 4,vR 72,vI 59,vI 4,vR 79,vI 64,vI 4,vR 86])),(65,fI "KindTable" 345 43 63),(66,oA (vT "frame") none .plain [some (vR 65),some (vR 3),some (vR 62),none,some m2,none,some (vR 0)])]++(IG.o++(IF.o++(IE.o++([(88,tu (ss 387 ["depths","index","opens","rows","weights"])),(89,wV p),(90,wU p),(91,CC 393 90),(92,AG 395 90),(93,yD 90),(94,mj 90)]++(ID.o++(Eh.o++(Eg.o++(Ef.o++(Ee.o++(Ed.o++(Ec.o++(Eb.o++(Ea.o++(DZ.o++(DY.o++(DX.o++(DW.o)))))))))))))))))
noncomputable def IQ (p:Params):List (Nat×Obj):=[(3,di (dD (en p "__name__" 165 m3::(G3 p).take 69) 70)),(186,t8 p),(187,di (dD [⟨65,vJ 65 568,(vJ 5 520)⟩,⟨66,vJ 66 570,(vJ 5 520)⟩,⟨67,vJ 67 572,(vJ 5 520)⟩,⟨68,vJ 68 574,(vJ 5 520)⟩,⟨69,vJ 69 576,(vJ 6 522)⟩,⟨70,vJ 70 578,(vJ 0 510)⟩,⟨71,vJ 71 580,(vJ 0 510)⟩,⟨72,vJ 72 582,(vJ 0 510)⟩,⟨73,vJ 73 584,(vJ 0 510)⟩,⟨74,vJ 74 586,(vJ 0 510)⟩,⟨75,vJ 75 588,(vJ 0 510)⟩,⟨76,vJ 76 590,(vJ 0 510)⟩,⟨77,vJ 77 592,(vJ 0 510)⟩,⟨80,vJ 80 594,(vJ 0 510)⟩,⟨81,vJ 81 596,(vJ 0 510)⟩,⟨82,vJ 82 598,(vJ 0 510)⟩,⟨83,vJ 83 600,(vJ 0 510)⟩] 17)),(188,di (dD [⟨84,vJ 84 602,(vJ 0 510)⟩,⟨85,vJ 85 604,(vJ 0 510)⟩,⟨88,vJ 88 606,(vJ 0 510)⟩,⟨89,vJ 89 608,(vJ 0 510)⟩,⟨90,vJ 90 610,(vJ 0 510)⟩,⟨91,vJ 91 612,(vJ 0 510)⟩,⟨92,vJ 92 614,(vJ 0 510)⟩,⟨93,vJ 93 616,(vJ 0 510)⟩,⟨94,vJ 94 618,(vJ 0 510)⟩,⟨95,vJ 95 620,(vJ 0 510)⟩,⟨96,vJ 96 622,(vJ 0 510)⟩,⟨97,vJ 97 624,(vJ 0 510)⟩,⟨98,vJ 98 626,(vJ 0 510)⟩,⟨99,vJ 99 628,(vJ 0 510)⟩,⟨100,vJ 100 630,(vJ 0 510)⟩,⟨101,vJ 101 632,(vJ 0 510)⟩,⟨102,vJ 102 634,(vJ 0 510)⟩] 17)),(189,di (dD [⟨103,vJ 103 636,(vJ 0 510)⟩,⟨104,vJ 104 638,(vJ 0 510)⟩,⟨105,vJ 105 640,(vJ 0 510)⟩,⟨106,vJ 106 642,(vJ 0 510)⟩,⟨109,vJ 109 644,(vJ 0 510)⟩,⟨110,vJ 110 646,(vJ 0 510)⟩,⟨111,vJ 111 648,(vJ 9 528)⟩,⟨113,vJ 113 650,(vJ 7 524)⟩,⟨114,vJ 114 652,(vJ 10 530)⟩,⟨115,vJ 115 654,(vJ 9 528)⟩,⟨116,vJ 116 656,(vJ 7 524)⟩,⟨117,vJ 117 658,(vJ 7 524)⟩,⟨121,vJ 121 660,(vJ 7 524)⟩,⟨122,vJ 122 662,(vJ 0 510)⟩,⟨123,vJ 123 664,(vJ 8 526)⟩,⟨124,vJ 124 666,(vJ 8 526)⟩,⟨125,vJ 125 668,(vJ 8 526)⟩] 17)),(190,di (dD [⟨126,vJ 126 670,(vJ 8 526)⟩,⟨127,vJ 127 672,(vJ 8 526)⟩,⟨128,vJ 128 674,(vJ 8 526)⟩,⟨129,vJ 129 676,(vJ 7 524)⟩,⟨130,vJ 130 678,(vJ 0 510)⟩,⟨131,vJ 131 680,(vJ 0 510)⟩,⟨132,vJ 132 682,(vJ 0 510)⟩,⟨133,vJ 133 684,(vJ 0 510)⟩,⟨134,vJ 134 686,(vJ 0 510)⟩,⟨135,vJ 135 688,(vJ 0 510)⟩,⟨136,vJ 136 690,(vJ 0 510)⟩,⟨137,vJ 137 692,(vJ 0 510)⟩,⟨140,vJ 140 694,(vJ 7 524)⟩,⟨141,vJ 141 696,(vJ 7 524)⟩,⟨142,vJ 142 698,(vJ 0 510)⟩,⟨143,vJ 143 700,(vJ 7 524)⟩,⟨163,vJ 163 702,(vJ 7 524)⟩] 17)),(191,di (dD [⟨164,vJ 164 704,(vJ 7 524)⟩,⟨165,vJ 165 706,(vJ 7 524)⟩,⟨179,vJ 179 708,(vJ 0 510)⟩,⟨180,vJ 180 710,(vJ 0 510)⟩,⟨181,vJ 181 712,(vJ 0 510)⟩,⟨182,vJ 182 714,(vJ 0 510)⟩,⟨183,vJ 183 716,(vJ 0 510)⟩,⟨184,vJ 184 718,(vJ 0 510)⟩,⟨185,vJ 185 720,(vJ 0 510)⟩,⟨186,vJ 186 722,(vJ 0 510)⟩,⟨208,vJ 208 724,(vJ 11 532)⟩,⟨209,vJ 209 726,(vJ 0 510)⟩,⟨210,vJ 210 728,(vJ 0 510)⟩,⟨211,vJ 211 730,(vJ 0 510)⟩,⟨214,vJ 214 732,(vJ 0 510)⟩,⟨215,vJ 215 734,(vJ 0 510)⟩,⟨216,vJ 216 736,(vJ 0 510)⟩] 17)),(192,di (dD [⟨217,vJ 217 738,(vJ 0 510)⟩,⟨218,vJ 218 740,(vJ 0 510)⟩,⟨219,vJ 219 742,(vJ 0 510)⟩,⟨220,vJ 220 744,(vJ 0 510)⟩,⟨221,vJ 221 746,(vJ 5 520)⟩,⟨223,vJ 223 748,(vJ 0 510)⟩,⟨65025,vJ 65025 750,(vJ 0 510)⟩,⟨65026,vJ 65026 752,(vJ 0 510)⟩,⟨65027,vJ 65027 754,(vJ 0 510)⟩,⟨65028,vJ 65028 756,(vJ 0 510)⟩,⟨65029,vJ 65029 758,(vJ 0 510)⟩,⟨65030,vJ 65030 760,(vJ 9 528)⟩,⟨65031,vJ 65031 762,(vJ 9 528)⟩,⟨65033,vJ 65033 764,(vJ 3 516)⟩,⟨65034,vJ 65034 766,(vJ 3 516)⟩,⟨65035,vJ 65035 768,(vJ 3 516)⟩,⟨65036,vJ 65036 770,(vJ 4 518)⟩] 17)),(193,di (dD [⟨65037,vJ 65037 772,(vJ 4 518)⟩,⟨65038,vJ 65038 773,(vJ 4 518)⟩,⟨65041,vJ 65041 774,(vJ 0 510)⟩,⟨65045,vJ 65045 775,(vJ 7 524)⟩,⟨65046,vJ 65046 776,(vJ 7 524)⟩,⟨65050,vJ 65050 777,(vJ 0 510)⟩,⟨65054,vJ 65054 778,(vJ 0 510)⟩] 7))]
noncomputable def Hj (p:Params):List (Nat×Obj):=[(3,di (dD (en p "__name__" 165 m4::(G3 p).take 104) 105)),(12,oB vN (dF (HE.take 102)))]++(DV.o++([(201,tu []),(202,ma),(203,di (dD [en p "__module__" 839 m4,en p "__qualname__" 841 (vS "TypeDef" 840),en p "__firstlineno__" 843 (vJ 200 842),en p "__init__" 858 (vR 214),en p "__static_attributes__" 878 (vR 215)] 5)),(204,tu []),(205,oB vN (dF [vI 202,vI 4,vR 213])),(206,fI "TypeDef" 834 200 204),(207,oA (vT "frame") none .plain [some (vR 206),some (vR 3),some (vR 203),none,some m4,none,some (vR 0)])]++(DU.o++([(215,tu (ss 859 ["asm","base","bounds","cctor","events","fields","finaliser","flags","home","ifaces","impls","methods","name","params","props","sort","tid","under","variances"])),(216,qT p),(217,qS p),(218,CC 879 217),(219,AG 881 217),(220,yD 217),(221,mj 217),(222,tu []),(223,ma),(224,di (dD [en p "__module__" 893 m4,en p "__qualname__" 895 (vS "FieldDef" 894),en p "__firstlineno__" 897 (vJ 226 896),en p "__init__" 910 (vR 235),en p "__static_attributes__" 918 (vR 236)] 5)),(225,tu []),(226,oB vN (dF [vI 228,vI 4,vR 234])),(227,fI "FieldDef" 888 226 225),(228,oA (vT "frame") none .plain [some (vR 227),some (vR 3),some (vR 224),none,some m4,none,some (vR 0)])]++(DQ.o++([(236,tu (ss 911 ["access","fid","flags","kind","name","owner","value"])),(237,qR p),(238,qQ p),(239,CC 919 238),(240,AG 921 238),(241,yD 238),(242,mj 238),(243,tu []),(244,ma),(245,di (dD [en p "__module__" 933 m4,en p "__qualname__" 935 (vS "MethodDef" 934),en p "__firstlineno__" 937 (vJ 236 936),en p "__init__" 951 (vR 256),en p "__static_attributes__" 966 (vR 257)] 5)),(246,tu []),(247,oB vN (dF [vI 238,vI 4,vR 255])),(248,fI "MethodDef" 928 236 246),(249,oA (vT "frame") none .plain [some (vR 248),some (vR 3),some (vR 245),none,some m4,none,some (vR 0)])]++(DP.o++([(257,tu (ss 952 ["access","body","flags","gbounds","gnames","mid","name","native","ngen","owner","params","pflags","pnames","ret"])),(258,qP p),(259,qO p),(260,CC 967 259),(261,AG 969 259),(262,yD 259),(263,mj 259),(264,tu []),(265,ma),(266,di (dD [en p "__module__" 981 m4,en p "__qualname__" 983 (vS "Body" 982),en p "__firstlineno__" 985 (vJ 253 984),en p "__init__" 996 (vR 277),en p "__static_attributes__" 1001 (vR 278)] 5)),(267,tu []),(268,oB vN (dF [vI 255,vI 4,vR 276])),(269,fI "Body" 976 253 267),(270,oA (vT "frame") none .plain [some (vR 269),some (vR 3),some (vR 266),none,some m4,none,some (vR 0)])]++(DO.o++([(278,tu (ss 997 ["clauses","code","locals_","maxstack"])),(279,qN p),(280,qM p),(281,CC 1002 280),(282,AG 1004 280),(283,yD 280),(284,mj 280),(285,tu []),(286,ma),(287,di (dD [en p "__module__" 1016 m4,en p "__qualname__" 1018 (vS "Store" 1017),en p "__firstlineno__" 1020 (vJ 260 1019),en p "__init__" 1027 (vR 298),en p "__static_attributes__" 1035 (vR 299)] 5)),(288,tu []),(289,oB vN (dF [vI 262,vI 4,vR 297])),(290,fI "Store" 1011 260 288),(291,oA (vT "frame") none .plain [some (vR 290),some (vR 3),some (vR 287),none,some m4,none,some (vR 0)])]++(DN.o++([(299,tu (ss 1028 ["asms","entry","fields_","kt","methods","names","types"])),(300,qL p),(301,qK p),(302,CC 1036 301),(303,AG 1038 301),(304,yD 301),(305,mj 301)]++(DM.o++(DL.o++(DK.o++(DJ.o++(DH.o++(DG.o++(DF.o++(DE.o++(DD.o++(DB.o++(DA.o)))))))))))))))))))))))
noncomputable def Hi (p:Params):List (Nat×Obj):=[(3,w8 p),(12,oB vN (dF (HE.take 231)))]++(Dz.o++(Dy.o++(Dw.o++(Dv.o++(Du.o++([(418,tu []),(419,ma),(420,di (dD [en p "__module__" 1227 m5,en p "__qualname__" 1229 (vS "Paths" 1228),en p "__firstlineno__" 1231 (vJ 358 1230),en p "__init__" 1242 (vR 431),en p "kind" 1250 (vR 438),en p "kinds" 1256 (vR 443),en p "__static_attributes__" 1261 (vR 444)] 7)),(421,tu []),(422,oB vN (dF [vI 360,vI 4,vR 430,vI 368,vI 4,vR 437,vI 373,vI 4,vR 442])),(423,fI "Paths" 1222 358 421),(424,oA (vT "frame") none .plain [some (vR 423),some (vR 3),some (vR 420),none,some m5,none,some (vR 0)])]++(Dt.o++(Ds.o++(Dr.o'++([(444,tu (ss 1257 ["index","known","places","store"])),(445,qJ p),(446,qI p),(447,CC 1262 446),(448,AG 1264 446),(449,yD 446),(450,mj 446)]++(Dq.o++(Dp.o++(Do.o'++(Dn.o++(Dm.o++(Dl.o++(Dk.o++(Dj.o++(Di.o++(Dh.o++(Dg.o++(Df.o++(Dd.o'++(Dc.o'++(Db.o++(Da.o++(C0.o'++(CZ.o++(CY.o++([(576,qH p),(577,qG p),(578,qF p),(579,qE p),(580,qD p),(581,qC p),(582,qB p),(583,qA p),(584,qz p),(585,qy p),(586,qx p),(587,qw p),(588,qu p),(589,qt p),(590,qr p),(591,qq p),(592,qp p),(593,qo p),(594,qn p),(595,qm p),(596,ql p),(597,qk p),(598,qj p),(599,qi p)]++(CX.o++(CW.o++(CV.o++(CU.o++(CT.o++(CR.o++(CQ.o++(CP.o++(CO.o++(CN.o++(CM.o++(CL.o++(CK.o++(CJ.o'++(CI.o'++(CH.o++(CG.o++(CF.o'))))))))))))))))))))))))))))))))))))))))))))))))
noncomputable def Gc:Pos:=⟨0,0,0,0⟩
noncomputable def pY:Pos:=⟨41,0,41,13⟩
noncomputable def pW:Pos:=⟨42,0,42,8⟩
noncomputable def pV:Pos:=⟨177,0,177,8⟩
noncomputable def pU:Pos:=⟨178,0,178,7⟩
noncomputable def wL:Pos:=⟨337,0,344,73⟩
noncomputable def sy:Pos:=⟨683,0,703,63⟩
noncomputable def hG:Env:={scope:=pw.main.scope,locals:=mainNs,globals:=mainNs,cells:=[],code:=.ref 13,frame:=some 14}
noncomputable def cE:Code:=Code.body (behindTheImports pw) hG
noncomputable def fB:List Frame:=[topFrame ⟨0,0,0,0⟩]
noncomputable def stmts (a k:Nat):List Stmt:=(pw.main.body.drop a).take k
noncomputable def tB (p:Params):BT:=(.node (boot_o_0 p) (.node (boot_o_1 p) (.node (boot_o_3 p) (.node (boot_o_7 p) .nil .nil) .nil) (.node (boot_o_5 p) (.node (boot_o_9 p) .nil .nil) .nil)) (.node (boot_o_2 p) (.node (boot_o_4 p) (.node (boot_o_8 p) .nil .nil) .nil) (.node (boot_o_6 p) (.node (boot_o_10 p) .nil .nil) .nil)))
noncomputable def t0 (p:Params):BT:=gW (tB p) (JR p)
noncomputable def s0 (w:World) (os:OsState):SharedT:=⟨t0 w.params,15,{},#[],{},187,os⟩
noncomputable def Je (p:Params):BT:=gW (t0 p) (IU p)
noncomputable def FS (w:World) (os:OsState):SharedT:=⟨Je w.params,59,{},#[],{},314,os⟩
noncomputable def Jd (p:Params):BT:=gW (Je p) (IT p)
noncomputable def FQ (w:World) (os:OsState):SharedT:=⟨Jd w.params,60,{},#[],{},343,os⟩
noncomputable def Jc (p:Params):BT:=gW (Jd p) (IR p)
noncomputable def FP (w:World) (os:OsState):SharedT:=⟨Jc w.params,186,{},#[],{},534,os⟩
noncomputable def t64 (p:Params):BT:=gW (Jc p) (IQ p)
noncomputable def FO (w:World) (os:OsState):SharedT:=⟨t64 w.params,194,{},#[],{},787,os⟩
noncomputable def FE (p:Params):BT:=gW (t64 p) (Hj p)
noncomputable def FT (w:World) (os:OsState):SharedT:=⟨FE w.params,383,{},#[],{},1165,os⟩
noncomputable def FD (p:Params):BT:=gW (FE p) (Hi p)
noncomputable def uX (w:World) (os:OsState):SharedT:=⟨FD w.params,720,{},#[],{},1689,os⟩
theorem Ih (w:World) (os:OsState):segRunT treeTable pw w 11 (some (.ref 6)) 1 945 (s0 w os) (piecesOf (stmts 0 35) hG cE Gc fB)=some (.next,FS w os,cE,pY):=by
 rewrite [PySem.W.Fast.te10110043849684766642,PySem.W.Fast.te14364793385576792824];kernel_rfl
theorem Go (w:World) (os:OsState):segRunT treeTable pw (w.withFollow "special-get-raises" false) 11 (some (.ref 6)) 1 207 (FS (w.withFollow "special-get-raises" false) os) (piecesOf (stmts 35 1) hG cE pY fB)=some (.next,FQ (w.withFollow "special-get-raises" false) os,cE,pW):=by
 rewrite [PySem.W.Fast.te10110043849684766642,PySem.W.Fast.te14364793385576792824];kernel_rfl
theorem Gm (w:World) (os:OsState):segRunT treeTable pw (w.withFollow "special-get-raises" true) 11 (some (.ref 6)) 1 207 (FS (w.withFollow "special-get-raises" true) os) (piecesOf (stmts 35 1) hG cE pY fB)=some (.next,FQ (w.withFollow "special-get-raises" true) os,cE,pW):=by
 rewrite [PySem.W.Fast.te10110043849684766642,PySem.W.Fast.te14364793385576792824];kernel_rfl
theorem Ig (w:World) (os:OsState):segRunT treeTable pw w 11 (some (.ref 6)) 1 207 (FS w os) (piecesOf (stmts 35 1) hG cE pY fB)=some (.next,FQ w os,cE,pW):=
 byRow2 "special-get-raises" (P:=λ w=>segRunT treeTable pw w 11 (some (.ref 6)) 1 207 (FS w os) (piecesOf (stmts 35 1) hG cE pY fB)=some (.next,FQ w os,cE,pW)) (λ w=>Go w os) (λ w=>Gm w os) w
theorem Ie (w:World) (os:OsState):segRunT treeTable pw w 11 (some (.ref 6)) 1 810 (FQ w os) (piecesOf (stmts 36 27) hG cE pW fB)=some (.next,FP w os,cE,pV):=by
 rewrite [PySem.W.Fast.te10110043849684766642,PySem.W.Fast.te14364793385576792824];kernel_rfl
theorem Gl (w:World) (os:OsState):segRunT treeTable pw (w.withFollow "special-get-raises" false) 11 (some (.ref 6)) 1 2478 (FP (w.withFollow "special-get-raises" false) os) (piecesOf (stmts 63 1) hG cE pV fB)=some (.next,FO (w.withFollow "special-get-raises" false) os,cE,pU):=by
 rewrite [PySem.W.Fast.te10110043849684766642,PySem.W.Fast.te14364793385576792824];kernel_rfl
theorem Gk (w:World) (os:OsState):segRunT treeTable pw (w.withFollow "special-get-raises" true) 11 (some (.ref 6)) 1 2478 (FP (w.withFollow "special-get-raises" true) os) (piecesOf (stmts 63 1) hG cE pV fB)=some (.next,FO (w.withFollow "special-get-raises" true) os,cE,pU):=by
 rewrite [PySem.W.Fast.te10110043849684766642,PySem.W.Fast.te14364793385576792824];kernel_rfl
theorem Id (w:World) (os:OsState):segRunT treeTable pw w 11 (some (.ref 6)) 1 2478 (FP w os) (piecesOf (stmts 63 1) hG cE pV fB)=some (.next,FO w os,cE,pU):=
 byRow2 "special-get-raises" (P:=λ w=>segRunT treeTable pw w 11 (some (.ref 6)) 1 2478 (FP w os) (piecesOf (stmts 63 1) hG cE pV fB)=some (.next,FO w os,cE,pU)) (λ w=>Gl w os) (λ w=>Gk w os) w
theorem Gq (w:World) (os:OsState):segRunT treeTable pw w 11 (some (.ref 6)) 1 1741 (FO w os) (piecesOf (stmts 64 36) hG cE pU fB)=some (.next,FT w os,cE,wL):=by
 rewrite [PySem.W.Fast.te10110043849684766642,PySem.W.Fast.te14364793385576792824];kernel_rfl
theorem Gp (w:World) (os:OsState):segRunT treeTable pw w 11 (some (.ref 6)) 1 1757 (FT w os) (piecesOf (stmts 100 48) hG cE wL fB)=some (.next,uX w os,cE,sy):=by
 rewrite [PySem.W.Fast.te10110043849684766642,PySem.W.Fast.te14364793385576792824];kernel_rfl
theorem Gi (w:World) (os:OsState):topGo treeTable pw w 11 (some (.ref 6)) 12 ⟨boot_heap w.params,#[],boot_drawn,boot_toks,os⟩ (topStub pw)=some ((s0 w os).abs,⟨denote treeTable cE,cE,⟨0,0,0,0⟩,fB⟩):=by
 rewrite [PySem.W.Fast.te15667345088766844465,PySem.W.Fast.te11892475500146522536,PySem.W.Fast.te14364793385576792824];kernel_rfl
theorem zt (w:World) (os:OsState):segRun treeTable pw w 11 (some (.ref 6)) 1 1 (s0 w os).abs (blockOf (behindTheImports pw) hG cE ⟨0,0,0,0⟩ fB)=some (.next,(s0 w os).abs,cE,Gc):=by
 rewrite [PySem.W.Fast.te14364793385576792824];kernel_rfl
theorem Gj (w:World) (os:OsState):topRun treeTable pw w 11 (some (.ref 6)) 2 (uX w os).abs ⟨doneF .next,cE,sy,fB⟩=some (uX w os).abs:=by
 rewrite [PySem.W.Fast.te14082659384304107361,PySem.W.Fast.te14364793385576792824];kernel_rfl
noncomputable def qv:Program:={pw with main:={pw.main with body:=[sA 147]}}
noncomputable def dB:List Str:=(["EC_CATCH","RuneError","BadImage","BadKind","VOID","BOOL","CHAR","I1","U1","I2","U2","I4","U4","I8","U8","NINT","OBJECT","STRING","NULLK","PRIM_END","R_PRIM","R_CLASS","R_VALUE","R_ARRAY","R_BYREF","R_VAR","R_MVAR","R_BOXED","R_ROREF","R_FTN","R_RAW","DEEPEST_KIND","HEAVIEST_KIND","TID_PRIM","KindTable","inner_kinds","row_level","row_length","check_kind_row","check_named","check_args","may_stand","class_kind","prim_kind","array_kind","var_kind","is_value","is_var","SO_NONE","SO_I4","SO_I8","SO_ARG","SO_LOCAL","SO_BRANCH","SO_SWITCH","SO_KIND","SO_FIELD","SO_METHOD","SO_TEXT","SO_TOKEN","OP_SORT","op_sort","S_CLASS","S_STRUCT","S_IFACE","S_DELEGATE","S_ENUM","TF_ABSTRACT","TF_SEALED","VA_NONE","MF_STATIC","MF_VIRTUAL","MF_NEWSLOT","MF_CTOR","MF_CCTOR","MF_SPECIAL","T_OBJECT","T_VALUETYPE","T_ENUM","T_DELEGATE","TypeDef","FieldDef","MethodDef","Body","Store","plain_names","new_asm","usual_base","sort_flags","add_type","add_field","kept_flags","add_method","note_method","set_generic","set_body","put_once","add_impl","add_prop","add_event","is_virtual","LEAST_DEEP","Paths","same_defs","asm_name","own_types","standing","type_path","learn_kind","path_parts","kind_path","method_path","method_name","field_path","member_name","bound_rows","type_told","field_told","method_told","body_told","clause_path","operand_path","_law_terms","_law_heads","_law_draw","_law_members","_law_one","_law_described","_law_swap","_law_next","_law_moved","_law_other","_law_turn","_law_changed","_law_once","_law_alike","_law_kind","_law_make","_law_lay","_law_world","_law_ask"]:List String).map λ (s:String)=>(s:Str)
theorem Bm:behindTheImports pw=stmts 0 35++(stmts 35 1++(stmts 36 27++(stmts 63 1++(stmts 64 36++(stmts 100 48++[]))))):=by kernel_rfl
noncomputable abbrev Ab:Option Value:=some (.ref 6)
theorem Hh {p:Program} {w:World} {n₀:Nat} {ann:Option Value} {env:Env} {q:Pos} {c:Code} {b:List Stmt} {si:Shared} {ti:Thread} {pp q0:Pos} {a0:SharedT} {mp mb mf:Nat} {l35:List Stmt} {a35:SharedT} {q35:Pos} {m35:Nat} {l36:List Stmt} {a36:SharedT} {q36:Pos} {m36:Nat} {l63:List Stmt} {a63:SharedT} {q63:Pos} {m63:Nat} {l64:List Stmt} {a64:SharedT} {q64:Pos} {m64:Nat} {l100:List Stmt} {a100:SharedT} {q100:Pos} {m100:Nat} {l148:List Stmt} {a148:SharedT} {q148:Pos} {m148:Nat}
  (hc:c=Code.body b env) (hb:b=(l35++(l36++(l63++(l64++(l100++(l148++[])))))))
  (hp:topGo treeTable p w n₀ ann mp si ti=some (a0.abs,⟨denote treeTable c,c,pp,[topFrame q]⟩))
  (hbl:segRun treeTable p w n₀ ann 1 mb a0.abs (blockOf b env c pp [topFrame q])=some (.next,a0.abs,c,q0))
  (h35:segRunT treeTable p w n₀ ann 1 m35 a0 (piecesOf l35 env c q0 [topFrame q])=some (.next,a35,c,q35)) (h36:segRunT treeTable p w n₀ ann 1 m36 a35 (piecesOf l36 env c q35 [topFrame q])=some (.next,a36,c,q36)) (h63:segRunT treeTable p w n₀ ann 1 m63 a36 (piecesOf l63 env c q36 [topFrame q])=some (.next,a63,c,q63)) (h64:segRunT treeTable p w n₀ ann 1 m64 a63 (piecesOf l64 env c q63 [topFrame q])=some (.next,a64,c,q64)) (h100:segRunT treeTable p w n₀ ann 1 m100 a64 (piecesOf l100 env c q64 [topFrame q])=some (.next,a100,c,q100)) (h148:segRunT treeTable p w n₀ ann 1 m148 a100 (piecesOf l148 env c q100 [topFrame q])=some (.next,a148,c,q148))
  (hf:topRun treeTable p w n₀ ann mf a148.abs ⟨doneF .next,c,q148,[topFrame q]⟩=some a148.abs):
  topRun treeTable p w n₀ ann (mp+(mb+(m35+(m36+(m63+(m64+(m100+(m148+mf)))))))) si ti=some a148.abs:=by
 refine go_top hp ?_
 subst hc
 refine piece_block hbl ?_
 have key:topRun treeTable p w n₀ ann (m35+(m36+(m63+(m64+(m100+(m148+mf)))))) a0.abs (restOf (l35++(l36++(l63++(l64++(l100++(l148++[])))))) env (Code.body b env) q0 [topFrame q])=some a148.abs:=
  piece_app (segRun_of h35) (piece_app (segRun_of h36) (piece_app (segRun_of h63) (piece_app (segRun_of h64) (piece_app (segRun_of h100) (piece_app (segRun_of h148) (piece_nil hf))))))
 rw [←hb] at key
 exact key
theorem H0 (w:World) (os:OsState):topRun treeTable pw w 11 Ab (12+(1+(945+(207+(810+(2478+(1741+(1757+2)))))))) ⟨boot_heap w.params,#[],boot_drawn,boot_toks,os⟩ (topStub pw)=some (uX w os).abs:=
 Hh (mp:=12) (mb:=1) (mf:=2) (m35:=945) (m36:=207) (m63:=810) (m64:=2478) (m100:=1741) (m148:=1757) (c:=cE) (b:=behindTheImports pw) (env:=hG) (q:=⟨0,0,0,0⟩) (a0:=s0 w os) (a148:=uX w os)
  rfl Bm (Gi w os) (zt w os) (Ih w os) (Ig w os) (Ie w os) (Id w os) (Gq w os) (Gp w os) (Gj w os)
theorem Fc:∀w:World,(fencedOpening treeTable pw w 20000).map (λ s=>(s.heap,s.gens,s.drawn,s.toks))=some (boot_heap w.params,Array.mk [],boot_drawn,boot_toks):=
 boot_open (by kernel_rfl) (by kernel_rfl) (λ s=>by kernel_rfl)
theorem E8 (w:World):((boot_heap w.params).isNs mainGlobals && (#[]:Array GenState).size==0,(boot_heap w.params).objs.size,(boot_heap w.params).nsMap mainGlobals "__annotations__")=(true,11,Ab):=by kernel_rfl
noncomputable def KH (p:Params):Frag:=[(3,w8 p),(27,IH.c),(28,IH.f),(30,w7 p),(31,w6 p),(43,w5 p),(44,wZ p),(55,wY p),(56,wX p),(59,wW p),(72,IG.c),(73,IG.f),(79,IF.c),(80,IF.f),(86,IE.c),(87,IE.f),(89,wV p),(90,wU p),(100,ID.c),(101,ID.f),(107,Eh.c),(108,Eh.f),(114,Eg.c),(115,Eg.f),(121,Ef.c),(122,Ef.f),(128,Ee.c),(129,Ee.f),(135,Ed.c),(136,Ed.f),(142,Ec.c),(143,Ec.f),(149,Eb.c),(150,Eb.f),(156,Ea.c),(157,Ea.f),(163,DZ.c),(164,DZ.f),(170,DY.c),(171,DY.f),(177,DX.c),(178,DX.f),(184,DW.c),(185,DW.f),(186,t8 p),(199,DV.c),(200,DV.f),(213,DU.c),(214,DU.f),(216,qT p),(217,qS p),(234,DQ.c),(235,DQ.f),(237,qR p),(238,qQ p),(255,DP.c),(256,DP.f),(258,qP p),(259,qO p),(276,DO.c),(277,DO.f),(279,qN p),(280,qM p),(297,DN.c),(298,DN.f),(300,qL p),(301,qK p),(311,DM.c),(312,DM.f),(318,DL.c),(319,DL.f),(325,DK.c),(326,DK.f),(332,DJ.c),(333,DJ.f),(339,DH.c),(340,DH.f),(346,DG.c),(347,DG.f),(353,DF.c),(354,DF.f),(360,DE.c),(361,DE.f),(367,DD.c),(368,DD.f),(374,DB.c),(375,DB.f),(381,DA.c),(382,DA.f),(388,Dz.c),(389,Dz.f),(395,Dy.c),(396,Dy.f),(402,Dw.c),(403,Dw.f),(409,Dv.c),(410,Dv.f),(416,Du.c),(417,Du.f),(430,Dt.c),(431,Dt.f),(437,Ds.c),(438,Ds.f),(442,Dr.c'),(443,Dr.f'),(445,qJ p),(446,qI p),(456,Dq.c),(457,Dq.f),(463,Dp.c),(464,Dp.f),(468,Do.c'),(469,Do.f'),(475,Dn.c),(476,Dn.f),(482,Dm.c),(483,Dm.f),(489,Dl.c),(490,Dl.f),(496,Dk.c),(497,Dk.f),(503,Dj.c),(504,Dj.f),(510,Di.c),(511,Di.f),(517,Dh.c),(518,Dh.f),(524,Dg.c),(525,Dg.f),(531,Df.c),(532,Df.f),(536,Dd.c'),(537,Dd.f'),(541,Dc.c'),(542,Dc.f'),(548,Db.c),(549,Db.f),(555,Da.c),(556,Da.f),(560,C0.c'),(561,C0.f'),(567,CZ.c),(568,CZ.f),(574,CY.c),(575,CY.f),(576,qH p),(577,qG p),(578,qF p),(579,qE p),(580,qD p),(581,qC p),(582,qB p),(583,qA p),(584,qz p),(585,qy p),(586,qx p),(587,qw p),(588,qu p),(589,qt p),(590,qr p),(591,qq p),(592,qp p),(593,qo p),(594,qn p),(595,qm p),(596,ql p),(597,qk p),(598,qj p),(599,qi p),(605,CX.c),(606,CX.f),(612,CW.c),(613,CW.f),(619,CV.c),(620,CV.f),(626,CU.c),(627,CU.f),(633,CT.c),(634,CT.f),(640,CR.c),(641,CR.f),(647,CQ.c),(648,CQ.f),(654,CP.c),(655,CP.f),(661,CO.c),(662,CO.f),(668,CN.c),(669,CN.f),(675,CM.c),(676,CM.f),(682,CL.c),(683,CL.f),(689,CK.c),(690,CK.f),(694,CJ.c'),(695,CJ.f'),(699,CI.c'),(700,CI.f'),(706,CH.c),(707,CH.f),(713,CG.c),(714,CG.f),(718,CF.c'),(719,CF.f')]
noncomputable def KA:List Nat:=[3,27,28,30,31,43,44,55,56,59,72,73,79,80,86,87,89,90,100,101,107,108,114,115,121,122,128,129,135,136,142,143,149,150,156,157,163,164,170,171,177,178,184,185,186,199,200,213,214,216,217,234,235,237,238,255,256,258,259,276,277,279,280,297,298,300,301,311,312,318,319,325,326,332,333,339,340,346,347,353,354,360,361,367,368,374,375,381,382,388,389,395,396,402,403,409,410,416,417,430,431,437,438,442,443,445,446,456,457,463,464,468,469,475,476,482,483,489,490,496,497,503,504,510,511,517,518,524,525,531,532,536,537,541,542,548,549,555,556,560,561,567,568,574,575,576,577,578,579,580,581,582,583,584,585,586,587,588,589,590,591,592,593,594,595,596,597,598,599,605,606,612,613,619,620,626,627,633,634,640,641,647,648,654,655,661,662,668,669,675,676,682,683,689,690,694,695,699,700,706,707,713,714,718,719]
noncomputable abbrev HF (p:Params):Heap:=absHeap (FD p) 720 {}
theorem HC:∀P,KA=(KH P).map (·.1):=λ P=>by kernel_rfl
theorem GJ (w:World) (os:OsState):(staticsOk (importedModules pw.main.body) (boot_heap w.params) (HF w.params) && namesBound pw (HF w.params) && gensDone ⟨HF w.params,#[],{},1689,os⟩ && laidKept (boot_heap w.params) (HF w.params))=true:=by kernel_rfl
theorem GH (w:World):KA.map (HF w.params).get? =(KH w.params).map (λ p=>some p.2):=by kernel_rfl
theorem GI (w:World) (os:OsState):openSeen qv dB (importedModules pw.main.body) (λ _=>true) true ⟨HF w.params,#[],{},1689,os⟩=openGood qv dB:=by
 rewrite [PySem.W.Fast.te4187177175401517315];kernel_rfl
abbrev pq:OpenLaw:=PySem.Challenge.rw_xm0312_01
theorem xj {β γ:Type} {a:Bool} {b b':β} {c c':γ} (h1:a=true) (h2:b=b') (h3:c=c'):(a,b,c)=(true,b',c'):=by subst h1 h2 h3;rfl
theorem Bn (w:World):(λ os=>((staticsOk (importedModules pw.main.body) (boot_heap w.params) (HF w.params) && namesBound pw (HF w.params) && gensDone ⟨HF w.params,#[],{},1689,os⟩ && laidKept (boot_heap w.params) (HF w.params)),
    openSeen qv dB (importedModules pw.main.body) (λ _=>true) true ⟨HF w.params,#[],{},1689,os⟩,KA.map (HF w.params).get?))=λ _=>(true,openGood qv dB,(KH w.params).map λ p=>some p.2):=
 funext λ os=>xj (GJ w os) (GI w os) (GH w)
theorem H2 (w:World) (os:OsState):(uX w os).abs=⟨HF w.params,#[],{},1689,os⟩:=by kernel_rfl
theorem E9 (w:World) (os:OsState):topRun treeTable pw w 11 Ab (12+(1+(945+(207+(810+(2478+(1741+(1757+2)))))))) ⟨boot_heap w.params,#[],boot_drawn,boot_toks,os⟩ (topStub pw)=some ⟨HF w.params,#[],{},1689,os⟩:=(H0 w os).trans (congrArg some (H2 w os))
theorem Fd:LeftO pw qv dB (λ _=>true) (λ s=>KA.map s.heap.get?) (λ w=>(KH w.params).map λ p=>some p.2) 20000:=
 LeftO.of_pieces (p:=pw) (q:=qv) (loose:=dB) (Xt:=λ _=>true) (α:=List (Option Obj)) (Yf:=λ s=>KA.map s.heap.get?) (Ya:=λ w=>(KH w.params).map λ p=>some p.2) (N:=20000) (g0:=true)
  (H₀:=λ p=>boot_heap p) (H₁:=λ p=>HF p) (gs₀:=#[]) (gs₁:=#[]) (d₀:=boot_drawn) (d₁:={}) (k₀:=boot_toks) (k₁:=1689) (m₀:=11) (ann:=Ab) (M:=12+(1+(945+(207+(810+(2478+(1741+(1757+2))))))))
  Fc E8 E9 (by kernel_rfl) Bn
noncomputable def ec:DefRec:={name:=Str.ofString "law",params:=AK (sA 147),body:=AJ (sA 147),scope:=xV (sA 147),pos:=sy}
theorem H1:defOf qv pq.row.name=some (ec,[]):=by kernel_rfl
theorem HY:pq.row.prog.theDef pq.row.name=some (ec.params,ec.body,ec.scope):=by kernel_rfl
theorem JA:kwWritten? ec.params.kwonlyargs ec.params.kw_defaults=some []:=by kernel_rfl
theorem Jz:(chainsOk qv && opensWell pq.row.prog && (frees pq.row.toRowW && pq.row.within.isEmpty))=true:=by kernel_rfl
theorem HZ:pq.row.prog.tablesWhole=true:=by kernel_rfl
noncomputable section
theorem HX:pq.row.toRowW.promised:=by w_witness2
theorem whead (BP:pq.wellSaid=true) (call:WalkO qv dB (λ _ _=>True) (λ w h=>(KH w.params).In h) pq.row.toRowW ec [] λ f vs=>PySem.call f vs):PySem.Challenge.rw_xm0312_01.Holds:=
 holds_law BP λ rs=>PySem.W.holds_open (r:=pq.row) (q:=qv) (loose:=dB) (Xt:=λ _=>true) (XP:=λ _ _=>True) (α:=List (Option Obj)) (Yf:=λ s=>KA.map s.heap.get?) (Ya:=λ w=>(KH w.params).map λ (p:Addr×Obj)=>some p.2) (YP:=λ w h=>(KH w.params).In h) (d:=ec) (kwd:=[]) (N:=20000)
  Fd (λ w s e=>Frag.in_of (HC w.params) e) (λ w h h' x k=>Frag.In.keeps x k) (λ _ _=>trivial) (λ _ _ _ _ _=>trivial) H1 HY JA
  (λ s _=>recFacts_of (by rfl)) (by kernel_rfl) rs Jz ⟨rfl,rfl,rfl,rfl,rfl,HZ⟩ HX call
end
open PySem.SeqAt
set_option genInjectivity true in
inductive V where
 |none|bool (b:Bool)|int (i:Int)|str (s:String)|tup (l:List V)|ref (n:Nat)|gdict (l:List (Int×Int))|rol (l:List Int)
structure Tg where
 r:Nat
 s:Nat
 i:Nat
noncomputable def aa:Tg:=⟨0,0,0⟩
inductive O where
 |list (t:Tg) (l:List V)
 |dict (t:Tg) (kd:Nat) (l:List (V×V))
 |inst (t:Tg) (c:String) (l:List (String×V))
structure St where
 objs:List O
noncomputable def aN:Nat:=1000000
noncomputable def cI:List String:=["KindTable","TypeDef","FieldDef","MethodDef","Body","Store","Paths"]
structure Bx where
 prog:Program
 w:World
 K:Frag
 p:Program
 loose:List Str
 mean:ExcName→Option Value
 mg:Str→Option Value
 mb:Str→Option Value
 ro:Option (Addr×List Value)
noncomputable abbrev bh:=List (Addr×Option Addr)
noncomputable abbrev ad:=List (Addr×Obj)
noncomputable def aB (φ:bh):List Addr:=φ.flatMap λ p=>p.1::p.2.toList
noncomputable abbrev am (vs:List Value) (n:Nat):Obj:={cls:=.type "tuple",data:=.seq vs.toArray n}
mutual
inductive VR (B:Bx) (φ:bh) (nw:ad):V→Value→Prop
 |none:VR B φ nw .none .none
 |bool (b:Bool):VR B φ nw (.bool b) (.bool b)
 |int (i:Int) (t:Tok):VR B φ nw (.int i) (.int i t)
 |str (s:String) (t:Tok):VR B φ nw (.str s) (.str (Str.ofString s) t)
 |tup {l:List V} {vs:List Value} {a:Addr} {n:Nat}:(a,am vs n)∈nw→bC B φ nw l vs→VR B φ nw (.tup l) (.ref a)
 |ktup {l:List V} {vs:List Value} {a:Addr} {n:Nat} {d:Option Addr} {sl:Array (Option Value)}:B.K.lookup a=some ⟨.type "tuple",d,.seq vs.toArray n,sl⟩→vs.length≤1000→bC B φ nw l vs→VR B φ nw (.tup l) (.ref a)
 |ref {n:Nat} {a:Addr} {d:Option Addr}:φ[n]? =some (a,d)→VR B φ nw (.ref n) (.ref a)
 |gdict {l:List (Int×Int)} {a:Addr} {o:Obj} {kvs:List (Int×Value)}:B.K.lookup a=some o→o.IsDictOf (intKind B.prog B.w) kvs→kvs.length≤1000→(∀k,match l.lookup k with|some j=>∃t,valueAt kvs k=some (.int j t)|none=>valueAt kvs k=none)→(a==sysModules)=false→VR B φ nw (.gdict l) (.ref a)
 |rol {l:List Int} {vs:List Value} {a:Addr}:B.ro=some (a,vs)→vs.length≤1000→bC B φ nw (l.map V.int) vs→VR B φ nw (.rol l) (.ref a)
inductive bC (B:Bx) (φ:bh) (nw:ad):List V→List Value→Prop
 |nil:bC B φ nw [] []
 |cons {v:V} {u:Value} {l:List V} {us:List Value}:VR B φ nw v u→bC B φ nw l us→bC B φ nw (v::l) (u::us)
end
noncomputable def G4 (B:Bx) (i:Int):Int:=(intKind B.prog B.w).hash i
noncomputable def G0 (B:Bx) (s:String):Int:=(PySem.strKind B.prog B.w).hash (Str.ofString s)
mutual
noncomputable def cH (B:Bx):V→Int
 | .int i=>G4 B i
 | .str s=>G0 B s
 | .tup l=>reduceHash (Builtin.Tuple.tupleHashOf (dJ B l))
 |_=>0
noncomputable def dJ (B:Bx):List V→List Int
 |[]=>[]
 |v::l=>cH B v::dJ B l
end
mutual
noncomputable def ri:Nat→V→Bool
 |_,.int _=>true
 |_,.str _=>true
 |n,.tup l=>(match n with|0=>false|n+1=>eL n l)
 |_,_=>false
noncomputable def eL:Nat→List V→Bool
 |_,[]=>true
 |n,v::l=>ri n v && eL n l
end
noncomputable def kk (t:Nat) (k:V):Bool:=match k with
 | .int _=>t % 3==0
 | .str _=>t % 3==1
 | .tup l=>t % 3==2 && ri 7 (.tup l)
 |_=>false
inductive DR (B:Bx) (φ:bh) (nw:ad) (t:Nat):List (V×V)→List DictEntry→Prop
 |nil:DR B φ nw t [] []
 |cons {k v:V} {uk uv:Value} {l:List (V×V)} {es:List DictEntry}:VR B φ nw k uk→kk t k=true→VR B φ nw v uv→DR B φ nw t l es→DR B φ nw t ((k,v)::l) (⟨cH B k,uk,uv⟩::es)
inductive AR (B:Bx) (φ:bh) (nw:ad):List (String×V)→List DictEntry→Prop
 |nil:AR B φ nw [] []
 |cons {s:String} {v:V} {h:Int} {t:Tok} {uv:Value} {l:List (String×V)} {es:List DictEntry}:VR B φ nw v uv→AR B φ nw l es→AR B φ nw ((s,v)::l) (⟨h,.str (Str.ofString s) t,uv⟩::es)
noncomputable def wB:Value→Option Addr
 | .ref C=>some C
 |_=>none
theorem pQ {v:Value} {C:Addr}:wB v=some C→v=.ref C:=by
 cases v with
 |ref g=>exact λ h=>congrArg Value.ref (J4 h)
 |_=>exact nofun
theorem jg {α β:Type} {o:Option α} {f:α→Option β} {b:β} (h:o.bind f=some b):∃a,o=some a∧f a=some b:=by
 cases o with
 |none=>cases h
 |some a=>exact ⟨a,rfl,h⟩
noncomputable def jw (K:Frag) (c:String):Option Addr:=(nsIn K mainGlobals (Str.ofString c)).bind λ v=>v.bind wB
theorem yc {K:Frag} {c:String} {C:Addr} (h:jw K c=some C):nsIn K mainGlobals (Str.ofString c)=some (some (.ref C)):=
 (jg h).elim λ yy h=>(jg h.2).elim λ yy k=>h.1.trans (congrArg some (k.1.trans (congrArg some (pQ k.2))))
inductive OR (B:Bx) (φ:bh) (nw:ad):O→Addr→Option Addr→Prop
 |list {t:Tg} {l:List V} {vs:List Value} {a:Addr} {n:Nat}:(a,listOf vs.toArray n)∈nw→bC B φ nw l vs→OR B φ nw (.list t l) a none
 |dict {t:Tg} {kd:Nat} {l:List (V×V)} {es:List DictEntry} {a:Addr} {n:Nat}:(a,dictOf es n)∈nw→DR B φ nw kd l es→(l.map (·.1)).Nodup→l.length≤aN→OR B φ nw (.dict t kd l) a none
 |inst {t:Tg} {c:String} {as:List (String×V)} {C a d:Addr} {es:List DictEntry} {n:Nat}:c∈cI→jw B.K c=some C→(a,instObj C d)∈nw→(d,dictOf es n)∈nw→AR B φ nw as es→as.length≤100→OR B φ nw (.inst t c as) a (some d)
noncomputable def mc (o:Obj):Nat:=match o.data with
 | .seq its _=>its.size
 |_=>0
structure fY (B:Bx) (σ:St) (φ:bh) (nw:ad):Prop where
 len:φ.length=σ.objs.length
 nd:(aB φ).Nodup
 nn:(nw.map (·.1)).Nodup
 sz:∀p∈nw,mc p.2≤aN
 nm:∀p∈nw,(p.1==sysModules)=false
 obj:∀(n:Nat) (o:O),σ.objs[n]? =some o→∃a d,φ[n]? =some (a,d)∧OR B φ nw o a d
structure bI (φ:bh) (nw:ad) (φ':bh) (nw':ad):Prop where
 pre:φ<+:φ'
 kept:∀p∈nw,p.1∉aB φ→p∈nw'
 fresh:∀a∈aB φ',a∈aB φ∨a∉nw.map (·.1)
theorem bI.refl (φ:bh) (nw:ad):bI φ nw φ nw:=⟨J1 _,λ yy h yy=>h,λ yy h=>.inl h⟩
theorem eV (φ ψ:bh):aB (φ++ψ)=aB φ++aB ψ:=by simp [aB]
theorem bI.trans {φ φ' φ'':bh} {nw nw' news'':ad} (h:bI φ nw φ' nw') (k:bI φ' nw' φ'' news''):bI φ nw φ'' news'':=by
 refine ⟨h.pre.trans k.pre,λ p hp hn=>k.kept p (h.kept p hp hn) λ ha=>?_,λ a ha=>?_⟩
 ·rcases h.fresh _ ha with h1|h1
  ·exact hn h1
  ·exact h1 (Ke hp)
 ·rcases k.fresh a ha with h1|h1
  ·exact h.fresh a h1
  ·by_cases q:a∈aB φ
   ·exact .inl q
   ·refine .inr λ hm=>h1 ?_
    obtain ⟨p,hp,rfl⟩:=KB.mp hm
    exact Ke (h.kept p hp q)
theorem aM {α β:Type}:∀{l:List (α×β)},(l.map (·.1)).Nodup→∀{a:α} {o o':β},(a,o)∈l→(a,o')∈l→o=o'
 |p::r,nn,a,o,o',h,h'=>by
  have nn:=KE.mp nn
  rcases KG.mp h with e|h1
  ·rcases KG.mp h' with e'|h2
   ·exact (Prod.mk.inj (e.trans e'.symm)).2
   ·exact absurd (e▸Ke (f:=(·.1)) h2) nn.1
  ·rcases KG.mp h' with e'|h2
   ·exact absurd (e'▸Ke (f:=(·.1)) h1) nn.1
   ·exact aM nn.2 h1 h2
 |[],_,_,_,_,h,_=>absurd h Kf
theorem fY.at_addr {B:Bx} {σ:St} {φ:bh} {nw:ad} (R:fY B σ φ nw) {a:Addr} (h:a∈aB φ):
  ∃o,(a,o)∈nw∧((∃vs n,o=listOf vs n)∨(∃es n,o=dictOf es n)∨∃C d,o=instObj C d):=by
 unfold aB at h
 obtain ⟨⟨x,d⟩,hp,ha⟩:=Lp.mp h
 obtain ⟨n,hn⟩:=KN.mp hp
 have hl:n<σ.objs.length:=by rw [←R.len];exact (Ka.mp hn).1
 obtain ⟨a',d',hφ,ho⟩:=R.obj n _ (JZ hl)
 rw [hn] at hφ
 cases hφ
 generalize σ.objs[n]=o at ho
 cases ho with
 |list hm _=>exact ⟨_,(Ko (b:=x)).mp ha▸hm,.inl ⟨_,_,rfl⟩⟩
 |dict hm _=>exact ⟨_,(Ko (b:=x)).mp ha▸hm,.inr (.inl ⟨_,_,rfl⟩)⟩
 |inst _ _ h1 h2 _ _=>exact (KG.mp ha).elim (λ e:a=x=>⟨_,e▸h1,.inr (.inr ⟨_,_,rfl⟩)⟩) λ h=>⟨_,(Ko.mp h)▸h2,.inr (.inl ⟨_,_,rfl⟩)⟩
theorem fY.tup_off {B:Bx} {σ:St} {φ:bh} {nw:ad} (R:fY B σ φ nw) {a:Addr} {vs:List Value} {n:Nat} (h:(a,am vs n)∈nw):a∉aB φ:=by
 intro ha
 obtain ⟨o,ho,hk⟩:=R.at_addr ha
 have e:=aM R.nn h ho
 have k:∀o:Obj,am vs n=o→(match o.cls with| .type s=>s|_=>"")="tuple":=λ yy e=>e▸rfl
 exact hk.elim (λ h=>h.elim λ yy h=>h.elim λ yy h=>absurd (k _ (e.trans h)) (show ¬"list"="tuple" by decide)) λ h=>h.elim (λ h=>h.elim λ yy h=>h.elim λ yy h=>absurd (k _ (e.trans h)) (show ¬"dict"="tuple" by decide)) λ h=>h.elim λ yy h=>h.elim λ yy h=>absurd (k _ (e.trans h)) (show ¬""="tuple" by decide)
theorem ba {φ φ':bh} (h:φ<+:φ') {n:Nat} {p:Addr×Option Addr} (e:φ[n]? =some p):φ'[n]? =some p:=by
 obtain ⟨t,rfl⟩:=h
 rw [List.getElem?_append_left (List.getElem?_eq_some_iff.mp e).1];exact e
theorem VR.mono' {B:Bx} {φ φ':bh} {nw nw':ad} (hp:φ<+:φ') (ht:∀a vs n,(a,am vs n)∈nw→(a,am vs n)∈nw') {v:V} {u:Value} (h:VR B φ nw v u):VR B φ' nw' v u:=
 VR.rec (motive_1:=λ v u yy=>VR B φ' nw' v u) (motive_2:=λ l us yy=>bC B φ' nw' l us) .none .bool .int .str (λ hm yy ih=>.tup (ht _ _ _ hm) ih) (λ hm hl yy ih=>.ktup hm hl ih) (λ h=>.ref (ba hp h))
  .gdict (λ h1 h2 yy ih=>.rol h1 h2 ih) .nil (λ yy yy a r=>.cons a r) h
noncomputable def VR.P (φ:bh) (v:V) (u:Value):Prop:=V.casesOn (motive_1:=λ yy=>Prop) v (u=.none) (λ b=>u=.bool b) (λ i=>∃t,u=.int i t) (λ s=>∃t,u=.str (Str.ofString s) t) (λ yy=>∃a,u=.ref a) (λ n=>∃a d,φ[n]? =some (a,d)∧u=.ref a) (λ yy=>∃a,u=.ref a) λ yy=>∃a,u=.ref a
theorem VR.inv {B:Bx} {φ:bh} {nw:ad} {v:V} {u:Value} (h:VR B φ nw v u):VR.P φ v u:=
 VR.casesOn (motive_1:=λ v u yy=>VR.P φ v u) h rfl (λ yy=>rfl) (λ yy t=>⟨t,rfl⟩) (λ yy t=>⟨t,rfl⟩) (λ yy yy=>⟨_,rfl⟩) (λ yy yy yy=>⟨_,rfl⟩) (λ h=>⟨_,_,h,rfl⟩) (λ yy yy yy yy yy=>⟨_,rfl⟩) λ yy yy yy=>⟨_,rfl⟩
theorem VR.intE {B:Bx} {φ:bh} {nw:ad} {i:Int} {u:Value} (h:VR B φ nw (.int i) u):∃t,u=.int i t:=h.inv
theorem VR.strE {B:Bx} {φ:bh} {nw:ad} {s:String} {u:Value} (h:VR B φ nw (.str s) u):∃t,u=.str (Str.ofString s) t:=h.inv
theorem VR.refE {B:Bx} {φ:bh} {nw:ad} {n:Nat} {u:Value} (h:VR B φ nw (.ref n) u):∃a d,φ[n]? =some (a,d)∧u=.ref a:=h.inv
@[elab_as_elim] theorem VR.intK {B:Bx} {φ:bh} {nw:ad} {i:Int} {u:Value} (x:VR B φ nw (.int i) u) {P:Value→Prop} (k:∀t,P (.int i t)):P u:=x.intE.elim λ t e=>e▸k t
@[elab_as_elim] theorem VR.strK {B:Bx} {φ:bh} {nw:ad} {s:String} {u:Value} (x:VR B φ nw (.str s) u) {P:Value→Prop} (k:∀t,P (.str (Str.ofString s) t)):P u:=x.strE.elim λ t e=>e▸k t
@[elab_as_elim] theorem VR.boolK {B:Bx} {φ:bh} {nw:ad} {b:Bool} {u:Value} (x:VR B φ nw (.bool b) u) {P:Value→Prop} (k:P (.bool b)):P u:=(x.inv:u=.bool b)▸k
@[elab_as_elim] theorem VR.gdK {B:Bx} {φ:bh} {nw:ad} {l:List (Int×Int)} {u:Value} (x:VR B φ nw (.gdict l) u) {P:Value→Prop} (k:∀a o kvs,B.K.lookup a=some o→o.IsDictOf (intKind B.prog B.w) kvs→kvs.length≤1000→(∀k,match l.lookup k with| .some j=>∃t,valueAt kvs k=some (.int j t)| .none=>valueAt kvs k=.none)→(a==sysModules)=false→P (.ref a)):P u:=by
 cases x with|gdict h1 h2 h3 h4 h5=>exact k _ _ _ h1 h2 h3 h4 h5
theorem bC.ind {B:Bx} {φ:bh} {nw:ad} {P:List V→List Value→Prop} (h0:P [] []) (h1:∀{v u l us},VR B φ nw v u→bC B φ nw l us→P l us→P (v::l) (u::us)) {l:List V} {us:List Value} (h:bC B φ nw l us):P l us:=
 bC.rec (motive_1:=λ yy yy yy=>True) (motive_2:=λ l us yy=>P l us) trivial (λ yy=>trivial) (λ yy yy=>trivial) (λ yy yy=>trivial) (λ yy yy yy=>trivial) (λ yy yy yy yy=>trivial) (λ yy=>trivial) (λ yy yy yy yy yy=>trivial) (λ yy yy yy yy=>trivial) h0 (λ a r yy ih=>h1 a r ih) h
theorem bC.mono' {B:Bx} {φ φ':bh} {nw nw':ad} (hp:φ<+:φ') (ht:∀a vs n,(a,am vs n)∈nw→(a,am vs n)∈nw') {l:List V} {us:List Value} (h:bC B φ nw l us):bC B φ' nw' l us:=
 h.ind .nil λ a yy ih=>.cons (a.mono' hp ht) ih
theorem DR.mono' {B:Bx} {φ φ':bh} {nw nw':ad} (hp:φ<+:φ') (ht:∀a vs n,(a,am vs n)∈nw→(a,am vs n)∈nw') {t:Nat} {l:List (V×V)} {es:List DictEntry} (h:DR B φ nw t l es):DR B φ' nw' t l es:=
 DR.rec (motive:=λ l es yy=>DR B φ' nw' t l es) .nil (λ h k v yy ih=>.cons (h.mono' hp ht) k (v.mono' hp ht) ih) h
theorem AR.mono' {B:Bx} {φ φ':bh} {nw nw':ad} (hp:φ<+:φ') (ht:∀a vs n,(a,am vs n)∈nw→(a,am vs n)∈nw') {l:List (String×V)} {es:List DictEntry} (h:AR B φ nw l es):AR B φ' nw' l es:=
 AR.rec (motive:=λ l es yy=>AR B φ' nw' l es) .nil (λ h yy ih=>.cons (h.mono' hp ht) ih) h
theorem bI.tups {B:Bx} {σ:St} {φ φ':bh} {nw nw':ad} (X:bI φ nw φ' nw') (R:fY B σ φ nw):∀a vs n,(a,am vs n)∈nw→(a,am vs n)∈nw':=
 λ yy yy yy h=>X.kept _ h (R.tup_off h)
theorem VR.mono {B:Bx} {σ:St} {φ φ':bh} {nw nw':ad} {v:V} {u:Value} (h:VR B φ nw v u) (R:fY B σ φ nw) (X:bI φ nw φ' nw'):VR B φ' nw' v u:=h.mono' X.pre (X.tups R)
theorem bC.mono {B:Bx} {σ:St} {φ φ':bh} {nw nw':ad} {v:List V} {u:List Value} (h:bC B φ nw v u) (R:fY B σ φ nw) (X:bI φ nw φ' nw'):bC B φ' nw' v u:=h.mono' X.pre (X.tups R)
section
variable {B:Bx} {φ:bh} {nw:ad}
theorem bC.length {l:List V} {us:List Value} (h:bC B φ nw l us):l.length=us.length:=h.ind (P:=λ l us=>l.length=us.length) rfl λ yy yy=>congrArg Nat.succ
theorem bC.append {l l':List V} {us us':List Value} (h:bC B φ nw l us) (h':bC B φ nw l' us'):bC B φ nw (l++l') (us++us'):=h.ind (P:=λ l us=>bC B φ nw (l++l') (us++us')) h' λ a yy=>.cons a
theorem bC.get {l:List V} {us:List Value} (h:bC B φ nw l us) {i:Nat} {v:V} (e:l[i]? =some v):∃u,us[i]? =some u∧VR B φ nw v u:=
 h.ind (P:=λ l us=>∀(i:Nat) (v:V),l[i]? =some v→∃u,us[i]? =some u∧VR B φ nw v u) (λ yy yy e=>absurd (List.getElem?_nil.symm.trans e) nofun) (λ a yy ih i v e=>by
  cases i with
  |zero=>exact ⟨_,rfl,J4 e▸a⟩
  |succ i=>exact ih i v e) i v e
theorem bC.set {l:List V} {us:List Value} (h:bC B φ nw l us):∀(i:Nat) {v:V} {u:Value},VR B φ nw v u→bC B φ nw (l.set i v) (us.set i u):=
 h.ind (P:=λ l us=>∀(i:Nat) {v:V} {u:Value},VR B φ nw v u→bC B φ nw (l.set i v) (us.set i u)) (λ yy yy yy yy=>.nil) λ a r ih i yy yy k=>by
  cases i with
  |zero=>exact .cons k r
  |succ i=>exact .cons a (ih i k)
theorem bC.take {l:List V} {us:List Value} (h:bC B φ nw l us):∀i:Nat,bC B φ nw (l.take i) (us.take i):=
 h.ind (P:=λ l us=>∀i:Nat,bC B φ nw (l.take i) (us.take i)) (λ i=>by rw [List.take_nil,List.take_nil];exact .nil) λ a yy ih i=>by
  cases i with
  |zero=>exact .nil
  |succ i=>exact .cons a (ih i)
end
noncomputable def setN (nw:ad) (a:Addr) (o':Obj):ad:=nw.map λ p=>if p.1=a then (a,o') else p
theorem iY (nw:ad) (a:Addr) (o':Obj):(setN nw a o').map (·.1)=nw.map (·.1):=by
 unfold setN
 rw [List.map_map]
 refine K7 λ p yy=>?_
 show (if p.1=a then (a,o') else p).1=p.1
 split
 ·rename_i h;exact h.symm
 ·rfl
theorem bt {nw:ad} {a:Addr} {o o':Obj} (h:(a,o)∈nw):(a,o')∈setN nw a o':=
 KB.mpr ⟨(a,o),h,by simp⟩
theorem au {nw:ad} {a:Addr} {o':Obj} {p:Addr×Obj} (h:p∈nw) (hn:p.1≠a):p∈setN nw a o':=
 KB.mpr ⟨p,h,if_neg hn⟩
theorem kA {nw:ad} {a:Addr} {o':Obj} {p:Addr×Obj} (h:p∈setN nw a o'):p=(a,o')∨(p∈nw∧p.1≠a):=by
 obtain ⟨q,hq,e⟩:=KB.mp h
 split at e
 ·exact .inl e.symm
 ·subst e;exact .inr ⟨hq,by assumption⟩
theorem wA {r:ad} {a:Addr} (o':Obj) (h:∀p∈r,p.1≠a):setN r a o'=r:=by
 unfold setN
 conv=>rhs;rw [←List.map_id r]
 exact K7 λ p hp=>if_neg (h p hp)
theorem vY {nw:ad} (nn:(nw.map (·.1)).Nodup) {a:Addr} {o:Obj} (h:(a,o)∈nw) (o':Obj):Upd a o o' nw (setN nw a o'):=by
 induction nw with
 |nil=>cases h
 |cons p r ih=>
  rw [List.map_cons,List.nodup_cons] at nn
  rcases KG.mp h with rfl|h1
  ·have hr:∀q∈r,q.1≠a:=λ q hq e=>nn.1 (e▸Ke (f:=(·.1)) hq)
   show Upd a o o' ((a,o)::r) ((if a=a then (a,o') else (a,o))::setN r a o')
   rw [if_pos rfl,wA o' hr]
   exact .head hr
  ·have hp:p.1≠a:=λ e=>nn.1 (e▸Ke (f:=(·.1)) h1)
   show Upd a o o' (p::r) ((if p.1=a then (a,o') else p)::setN r a o')
   rw [if_neg hp]
   exact .tail hp (ih nn.2 h1)
theorem News.setN {h₀ h h':Heap} {L a:Addr} {nw:ad} {o':Obj} (N:News h₀ L h nw) (hs:Heap.SameBut a h h') (ho:h'.get? a=some o') (ha:a∈nw.map (·.1)):News h₀ L h' (Mine.setN nw a o'):=by
 intro p hp
 rcases kA hp with rfl|⟨hq,hne⟩
 ·obtain ⟨q,hq,e⟩:=KB.mp ha
  have z:=N q hq
  rw [e] at z
  exact ⟨ho,z.2⟩
 ·have z:=N p hq
  exact ⟨(hs.2 _ hne).trans z.1,z.2⟩
noncomputable def St.get (σ:St) (l:Nat):Option O:=σ.objs[l]?
noncomputable def St.put (σ:St) (l:Nat) (o:O):St:=⟨σ.objs.set l o⟩
noncomputable def St.new (σ:St) (o:O):St:=⟨σ.objs++[o]⟩
noncomputable def St.len (σ:St):Nat:=σ.objs.length
section
variable {B:Bx} {σ:St} {φ:bh} {nw:ad}
theorem OR.mono' {φ':bh} {nw':ad} {o:O} {a:Addr} {d:Option Addr} (h:OR B φ nw o a d) (hp:φ<+:φ') (hk:∀p∈nw,p.1=a∨some p.1=d→p∈nw')
  (ht:∀a vs n,(a,am vs n)∈nw→(a,am vs n)∈nw'):OR B φ' nw' o a d:=by
 cases h with
 |list h1 h2=>exact .list (hk _ h1 (.inl rfl)) (h2.mono' hp ht)
 |dict h1 h2 h3 h4=>exact .dict (hk _ h1 (.inl rfl)) (h2.mono' hp ht) h3 h4
 |inst h0 h1 h2 h3 h4 h5=>exact .inst h0 h1 (hk _ h2 (.inl rfl)) (hk _ h3 (.inr rfl)) (h4.mono' hp ht) h5
theorem fY.extra (R:fY B σ φ nw) {a:Addr} {o:Obj} (hf:a∉nw.map (·.1)) (hz:mc o≤aN) (hm:(a==sysModules)=false):fY B σ φ ((a,o)::nw):=by
 refine ⟨R.len,R.nd,KE.mpr ⟨hf,R.nn⟩,λ p hp=>?_,λ p hp=>?_,λ n ob e=>?_⟩
 ·rcases KG.mp hp with rfl|hp
  ·exact hz
  ·exact R.sz p hp
 ·rcases KG.mp hp with rfl|hp
  ·exact hm
  ·exact R.nm p hp
 ·obtain ⟨x,d,h1,h2⟩:=R.obj n ob e
  exact ⟨x,d,h1,h2.mono' (J1 _) (λ yy h yy=>KK _ h) λ yy yy yy h=>KK _ h⟩
theorem bI.extra {a:Addr} {o:Obj}:bI φ nw φ ((a,o)::nw):=⟨J1 _,λ yy h yy=>KK _ h,λ yy h=>.inl h⟩
theorem fY.addr_mem (R:fY B σ φ nw) {a:Addr} (h:a∈aB φ):a∈nw.map (·.1):=by
 obtain ⟨o,ho,_⟩:=R.at_addr h
 exact Ke (f:=(·.1)) ho
theorem fY.off (R:fY B σ φ nw) {a:Addr} (h:a∉nw.map (·.1)):a∉aB φ:=λ q=>h (R.addr_mem q)
theorem eW {n:Nat} {a:Addr} {d:Option Addr} (h:φ[n]? =some (a,d)):a∈aB φ:=
 Lp.mpr ⟨_,Kh h,by simp⟩
theorem oH {n:Nat} {a d:Addr} (h:φ[n]? =some (a,some d)):d∈aB φ:=
 Lp.mpr ⟨_,Kh h,by simp⟩
theorem fY.reg (R:fY B σ φ nw) {o:O} {a:Addr} {d:Option Addr} (ho:OR B (φ++[(a,d)]) nw o a d) (hn:∀x∈a::d.toList,x∉aB φ) (hd:(a::d.toList).Nodup):fY B (σ.new o) (φ++[(a,d)]) nw:=by
 refine ⟨by simp [St.new,R.len],?_,R.nn,R.sz,R.nm,λ n ob e=>?_⟩
 ·rw [eV]
  refine Lb.mpr ⟨R.nd,by simpa [aB] using hd,λ x hx y hy e=>?_⟩
  subst e
  exact hn x (by simpa [aB] using hy) hx
 ·have hl:=R.len
  simp only [St.new] at e
  by_cases q:n<σ.objs.length
  ·rw [List.getElem?_append_left q] at e
   obtain ⟨x,dx,h1,h2⟩:=R.obj n ob e
   exact ⟨x,dx,by rw [List.getElem?_append_left (by omega)];exact h1,h2.mono' (Ku _ _) (λ yy h yy=>h) λ yy yy yy h=>h⟩
  ·have hlt:=(Ka.mp e).1
   simp only [List.length_append,List.length_cons,List.length_nil] at hlt
   have hnn:n=σ.objs.length:=by omega
   subst hnn
   simp at e
   subst e
   exact ⟨a,d,by rw [←hl];simp,ho⟩
theorem fY.setN (R:fY B σ φ nw) {a:Addr} {o o':Obj} (h:(a,o)∈nw) (hz:mc o'≤aN) (hne:∀vs n,o≠am vs n)
  (hobj:∀(n:Nat) (ob:O) (x:Addr) (d:Option Addr),σ.objs[n]? =some ob→φ[n]? =some (x,d)→(a=x∨some a=d)→OR B φ nw ob x d→∀ob',objs'[n]? =some ob'→OR B φ (Mine.setN nw a o') ob' x d)
  (hlen:objs'.length=σ.objs.length) (hoth:∀(n:Nat) (x:Addr) (d:Option Addr),φ[n]? =some (x,d)→a≠x→some a≠d→objs'[n]? =σ.objs[n]?):fY B ⟨objs'⟩ φ (Mine.setN nw a o'):=by
 have ht:∀x vs n,(x,am vs n)∈nw→(x,am vs n)∈Mine.setN nw a o':=λ x vs n hx=>au hx λ e=>by
  subst e
  exact hne vs n (aM R.nn h hx)
 refine ⟨by rw [hlen];exact R.len,R.nd,by rw [iY];exact R.nn,λ p hp=>?_,λ p hp=>?_,λ n ob' e=>?_⟩
 ·rcases kA hp with rfl|⟨hq,_⟩
  ·exact hz
  ·exact R.sz p hq
 ·rcases kA hp with rfl|⟨hq,_⟩
  ·exact R.nm (a,o) h
  ·exact R.nm p hq
 ·have hlt:n<σ.objs.length:=by rw [←hlen];exact (Ka.mp e).1
  obtain ⟨x,d,h1,h2⟩:=R.obj n _ (JZ hlt)
  refine ⟨x,d,h1,?_⟩
  by_cases q:a=x∨some a=d
  ·exact hobj n _ x d (JZ hlt) h1 q h2 ob' e
  ·have q1:a≠x:=λ z=>q (.inl z)
   have q2:some a≠d:=λ z=>q (.inr z)
   rw [hoth n x d h1 q1 q2,List.getElem?_eq_getElem hlt] at e
   cases e
   exact h2.mono' (J1 _) (λ p hp hpa=>au hp λ e=>by
    rcases hpa with r|r
    ·exact q1 (e▸r)
    ·exact q2 (e▸r)) ht
theorem sR (R:fY B σ φ nw) {n m:Nat} {a b:Addr} {d e:Option Addr} (h:φ[n]? =some (a,d)) (h':φ[m]? =some (b,e)) {x:Addr} (hx:x=a∨some x=d) (hy:x=b∨some x=e):n=m:=by
 have key:∀(φ:bh),(aB φ).Nodup→∀(n m:Nat) (a b:Addr) (d e:Option Addr),φ[n]? =some (a,d)→φ[m]? =some (b,e)→∀x,(x=a∨some x=d)→(x=b∨some x=e)→n=m:=by
  intro φ
  induction φ with
  |nil=>intro _ n m a b d e h;simp at h
  |cons p r ih=>
   intro nd n m a b d e h h' x hx hy
   have e0:aB (p::r)=(p.1::p.2.toList)++aB r:=rfl
   rw [e0] at nd
   obtain ⟨n1,n2,n3⟩:=Lb.mp nd
   have inr:∀{k:Nat} {a:Addr} {d:Option Addr} {x:Addr},r[k]? =some (a,d)→(x=a∨some x=d)→x∈aB r:=by
    intro k a d x hk hx
    refine Lp.mpr ⟨_,Kh hk,?_⟩
    rcases hx with rfl|hx
    ·simp
    ·rw [←hx];simp
   have inp:∀{a:Addr} {d:Option Addr} {x:Addr},p=(a,d)→(x=a∨some x=d)→x∈p.1::p.2.toList:=by
    rintro a d x rfl (rfl|hx)
    ·simp
    ·rw [←hx];simp
   cases n with
   |zero=>
    cases m with
    |zero=>rfl
    |succ m=>
     simp at h h'
     exact absurd rfl (n3 x (inp h hx) x (inr h' hy))
   |succ n=>
    cases m with
    |zero=>
     simp at h h'
     exact absurd rfl (n3 x (inp h' hy) x (inr h hx))
    |succ m=>
     simp at h h'
     rw [ih n2 n m a b d e h h' x hx hy]
 exact key φ R.nd n m a b d e h h' x hx hy
theorem fY.put (R:fY B σ φ nw) {n:Nat} {a:Addr} {d:Option Addr} {x:Addr} (hφ:φ[n]? =some (a,d)) (hx:x=a∨some x=d) {o o':Obj} (h:(x,o)∈nw) (hz:mc o'≤aN) (hne:∀vs n,o≠am vs n)
  {ob':O} (ho:OR B φ (Mine.setN nw x o') ob' a d):fY B (σ.put n ob') φ (Mine.setN nw x o'):=by
 have hl:n<σ.objs.length:=by rw [←R.len];exact (Ka.mp hφ).1
 refine R.setN h hz hne (λ m ob y e hm hφ' hq yy ob'' he=>?_) (by simp) λ m y e hφ' h1 h2=>?_
 ·have:=sR R hφ hφ' hx hq
  subst this
  rw [hφ] at hφ'
  cases hφ'
  rw [List.getElem?_set_self hl] at he
  cases he
  exact ho
 ·refine List.getElem?_set_ne λ e=>?_
  subst e
  rw [hφ] at hφ'
  cases hφ'
  rcases hx with r|r
  ·exact h1 r
  ·exact h2 r
theorem bI.put {x:Addr} {o':Obj} (hx:x∈aB φ):bI φ nw φ (Mine.setN nw x o'):=
 ⟨J1 _,λ p hp hn=>au hp λ e=>hn (e▸hx),λ yy h=>.inl h⟩
theorem fY.turn (R:fY B σ φ nw) {x:Addr} (hx:x∉aB φ) {o o':Obj} (h:(x,o)∈nw) (hz:mc o'≤aN) (hne:∀vs n,o≠am vs n):fY B σ φ (Mine.setN nw x o'):=by
 refine R.setN h hz hne (λ m ob y e hm hφ' hq yy ob'' he=>?_) rfl λ m y e hφ' h1 h2=>rfl
 exfalso
 rcases hq with rfl|q
 ·exact hx (eW hφ')
 ·subst q;exact hx (oH hφ')
theorem bI.turn {φ₀:bh} {news₀:ad} {x:Addr} {o':Obj} (X:bI φ₀ news₀ φ nw) (hx:x∉news₀.map (·.1)):bI φ₀ news₀ φ (Mine.setN nw x o'):=
 ⟨X.pre,λ p hp hn=>au (X.kept p hp hn) λ e=>hx (e▸Ke (f:=(·.1)) hp),X.fresh⟩
theorem bI.reg {φ₀:bh} {news₀:ad} {a:Addr} {d:Option Addr} (X:bI φ₀ news₀ φ nw) (hx:∀x∈a::d.toList,x∉news₀.map (·.1)):bI φ₀ news₀ (φ++[(a,d)]) nw:=
 ⟨X.pre.trans (Ku _ _),X.kept,λ y hy=>by
  rw [eV] at hy
  rcases KY.mp hy with hy|hy
  ·exact X.fresh y hy
  ·exact .inr (hx y (by simpa [aB] using hy))⟩
end
inductive A6 where
 |add|sub|mul|fdiv|mod|band
inductive yJ where
 |eq|ne|lt|le|gt|ge|is|isnot|isin|notin
inductive X where
 |loc (i:Nat)
 |gn (n:String)
 |int (i:Int)
 |str (s:String)
 |none
 |tt (b:Bool)
 |neg (i:Int)
 |bin (op:A6) (a b:X)
 |cmp (op:yJ) (a b:X)
 |bool (isAnd:Bool) (l:List X)
 |not_ (a:X)
 |ite (t a b:X)
 |call (f:String) (l:List X)
 |new (c:String) (l:List X)
 |len (a:X)
 |tupleOf (a:X)
 |strOf (a:X)
 |meth (o:X) (n:String) (l:List X)
 |lapp (o a:X)
 |lpop (o:X)
 |lindex (o a:X)
 |dget (o k d:X)
 |dsetd (o k d:X)
 |attr (o:X) (n:String)
 |sub (o i:X)
 |slTo (o i:X)
 |slAll (o:X)
 |slFrom (o:X) (k:Nat)
 |tup (l:List X)
 |list (l:List X)
 |dict (kd:Nat) (ks:List String) (l:List X)
 |comp (elt:X) (caps:List Nat) (isTup:Bool) (tn:Nat) (it:X) (conds:List X)
 |rng1 (a:X)
 |rng2 (a b:X)
 |bad
inductive T where
 |loc (i:Nat)
 |attr (o:X) (n:String)
 |sub (o i:X)
 |tup (l:List Nat)
inductive Y where
 |ex (x:X)
 |set (t:T) (x:X)
 |aug (i:Nat) (x:X)
 |ret (x:X)
 |ite (t:X) (a b:List Y)
 |for_ (isTup:Bool) (l:List Nat) (it:X) (body:List Y)
 |whl (t:X) (body:List Y)
 |bad
inductive Fn where
 |g (n:String)
 |m (c n:String)
noncomputable def Fn.k:Fn→Option String×String
 | .g n=>(none,n)
 | .m c n=>(some c,n)
noncomputable def Fn.o:Option String×String→Fn
 |(none,n)=>.g n
 |(some c,n)=>.m c n
theorem Fn.ok:∀a:Fn,.o a.k=a
 | .g _=>rfl
 | .m _ _=>rfl
noncomputable instance:DecidableEq Fn:=λ a b=>decidable_of_iff (a.k=b.k) ⟨λ h=>(Fn.ok a).symm.trans ((congrArg Fn.o h).trans (Fn.ok b)),λ h=>h▸rfl⟩
noncomputable abbrev ax:=List (Option V)
noncomputable def bK:ax→Nat→Option V
 |[],_=>none
 |v::_,0=>v
 |_::r,n+1=>bK r n
noncomputable def d9:ax→Nat→V→ax
 |[],_,_=>[]
 |_::r,0,v=>some v::r
 |u::r,n+1,v=>u::d9 r n v
noncomputable def jo:ax→List Nat→List V→ax
 |ρ,i::is,v::vs=>jo (d9 ρ i v) is vs
 |ρ,_,_=>ρ
mutual
noncomputable def V.dec:(a b:V)→Decidable (a=b)
 | .none,b=>if h:b.ctorIdx=0 then isTrue (V.none.elim (motive_1:=λ b=>V.none=b) b h rfl) else isFalse λ e=>h (e▸rfl)
 | .bool x,b=>if h:b.ctorIdx=1 then V.bool.elim (motive_1:=λ b=>Decidable (V.bool x=b)) b h (λ y=>decidable_of_iff (x=y) ⟨λ e=>congrArg V.bool e,V.bool.inj⟩) else isFalse λ e=>h (e▸rfl)
 | .int x,b=>if h:b.ctorIdx=2 then V.int.elim (motive_1:=λ b=>Decidable (V.int x=b)) b h (λ y=>decidable_of_iff (x=y) ⟨λ e=>congrArg V.int e,V.int.inj⟩) else isFalse λ e=>h (e▸rfl)
 | .str x,b=>if h:b.ctorIdx=3 then V.str.elim (motive_1:=λ b=>Decidable (V.str x=b)) b h (λ y=>decidable_of_iff (x=y) ⟨λ e=>congrArg V.str e,V.str.inj⟩) else isFalse λ e=>h (e▸rfl)
 | .tup x,b=>if h:b.ctorIdx=4 then V.tup.elim (motive_1:=λ b=>Decidable (V.tup x=b)) b h (λ y=>@decidable_of_iff _ (x=y) ⟨λ e=>congrArg V.tup e,V.tup.inj⟩ (V.decs x y)) else isFalse λ e=>h (e▸rfl)
 | .ref x,b=>if h:b.ctorIdx=5 then V.ref.elim (motive_1:=λ b=>Decidable (V.ref x=b)) b h (λ y=>decidable_of_iff (x=y) ⟨λ e=>congrArg V.ref e,V.ref.inj⟩) else isFalse λ e=>h (e▸rfl)
 | .gdict x,b=>if h:b.ctorIdx=6 then V.gdict.elim (motive_1:=λ b=>Decidable (V.gdict x=b)) b h (λ y=>decidable_of_iff (x=y) ⟨λ e=>congrArg V.gdict e,V.gdict.inj⟩) else isFalse λ e=>h (e▸rfl)
 | .rol x,b=>if h:b.ctorIdx=7 then V.rol.elim (motive_1:=λ b=>Decidable (V.rol x=b)) b h (λ y=>decidable_of_iff (x=y) ⟨λ e=>congrArg V.rol e,V.rol.inj⟩) else isFalse λ e=>h (e▸rfl)
noncomputable def V.decs:(a b:List V)→Decidable (a=b)
 |[],b=>List.casesOn (motive:=λ b=>Decidable ([]=b)) b (isTrue rfl) λ yy yy=>isFalse λ e=>List.noConfusion rfl (heq_of_eq e)
 |x::l,b=>List.casesOn (motive:=λ b=>Decidable (x::l=b)) b (isFalse λ e=>List.noConfusion rfl (heq_of_eq e)) λ y r=>@decidable_of_iff _ (x=y∧l=r) ⟨λ h=>by rw [h.1,h.2],λ e=>⟨(Lo e).1,(Lo e).2⟩⟩ (@instDecidableAnd _ _ (V.dec x y) (V.decs l r))
end
noncomputable instance:DecidableEq V:=V.dec
noncomputable def EG:List (Int×Int):=[(0,0),(20,0),(32,1),(33,2),(37,0),(38,0),(40,9),(42,0),(56,5),(57,5),(58,5),(59,5),(60,5),(61,5),(62,5),(63,5),(64,5),(65,5),(66,5),(67,5),(68,5),(69,6),(70,0),(71,0),(72,0),(73,0),(74,0),(75,0),(76,0),(77,0),(80,0),(81,0),(82,0),(83,0),(84,0),(85,0),(88,0),(89,0),(90,0),(91,0),(92,0),(93,0),(94,0),(95,0),(96,0),(97,0),(98,0),(99,0),(100,0),(101,0),(102,0),(103,0),(104,0),(105,0),(106,0),(109,0),(110,0),(111,9),(113,7),(114,10),(115,9),(116,7),(117,7),(121,7),(122,0),(123,8),(124,8),(125,8),(126,8),(127,8),(128,8),(129,7),(130,0),(131,0),(132,0),(133,0),(134,0),(135,0),(136,0),(137,0),(140,7),(141,7),(142,0),(143,7),(163,7),(164,7),(165,7),(179,0),(180,0),(181,0),(182,0),(183,0),(184,0),(185,0),(186,0),(208,11),(209,0),(210,0),(211,0),(214,0),(215,0),(216,0),(217,0),(218,0),(219,0),(220,0),(221,5),(223,0),(65025,0),(65026,0),(65027,0),(65028,0),(65029,0),(65030,9),(65031,9),(65033,3),(65034,3),(65035,3),(65036,4),(65037,4),(65038,4),(65041,0),(65045,7),(65046,7),(65050,0),(65054,0)]
noncomputable def Ar (l:List String):V:=.tup (l.map V.str)
noncomputable def fA (a b:Int) (r:String) (ps:List String):V:=.tup [.int a,.int b,.str r,Ar ps]
noncomputable def glob:List (String×V):=[("EC_CATCH",.int 0),("VOID",.int 0),("BOOL",.int 1),("NINT",.int 11),("NULLK",.int 14),("PRIM_END",.int 16),
 ("R_PRIM",.int 1),("R_CLASS",.int 2),("R_VALUE",.int 3),("R_ARRAY",.int 4),("R_BYREF",.int 5),("R_VAR",.int 6),("R_MVAR",.int 7),("R_BOXED",.int 8),("R_ROREF",.int 9),("R_FTN",.int 10),("R_RAW",.int 11),
 ("DEEPEST_KIND",.int 24),("HEAVIEST_KIND",.int 4096),
 ("SO_SWITCH",.int 6),("SO_KIND",.int 7),("SO_FIELD",.int 8),("SO_METHOD",.int 9),("SO_TOKEN",.int 11),
 ("S_CLASS",.int 1),("S_IFACE",.int 3),("VA_NONE",.int 0),("MF_STATIC",.int 1),("MF_VIRTUAL",.int 2),("MF_NEWSLOT",.int 4),("MF_CTOR",.int 32),("MF_CCTOR",.int 64),("MF_SPECIAL",.int 128),("T_OBJECT",.int 1),
 ("LEAST_DEEP",.int 8),
 ("_law_terms",Ar ["i","u","s","Ai","As","Bi","L","T","aT","aAi","o"]),
 ("_law_heads",.tup [fA 0 0 "v" [],fA 0 1 "v" [],fA 0 0 "i" [],fA 1 0 "v" [],fA 0 0 "v" ["i"],fA 0 0 "v" ["s"],fA 0 0 "v" ["i","s"],fA 0 0 "v" ["s","i"],fA 0 0 "v" ["Ai"],fA 0 0 "v" ["Bi"],fA 0 0 "v" ["aT"]]),
 ("TID_PRIM",.gdict [(20,0),(9,1),(10,2),(11,3),(12,4),(13,5),(14,6),(15,7),(16,8),(17,9),(18,10),(19,11),(1,12),(4,13)]),
 ("OP_SORT",.gdict EG)]
noncomputable def ug:List (String×V)→String→Option V
 |[],_=>none
 |(k,v)::l,x=>if k=x then some v else ug l x
noncomputable def G (n:String):Option V:=ug glob n
noncomputable def ae:List (V×V)→V→Option V
 |[],_=>none
 |(k,v)::l,x=>if k=x then some v else ae l x
noncomputable def bz:List (V×V)→V→V→List (V×V)
 |[],x,y=>[(x,y)]
 |(k,v)::l,x,y=>if k=x then (k,y)::l else (k,v)::bz l x y
noncomputable def cu:List (String×V)→String→Option V
 |[],_=>none
 |(k,v)::l,x=>if k=x then some v else cu l x
noncomputable def pi:List (String×V)→String→V→List (String×V)
 |[],x,y=>[(x,y)]
 |(k,v)::l,x,y=>if k=x then (k,y)::l else (k,v)::pi l x y
set_option genInjectivity true in
inductive D where
 |none|int (i:Int)|str (s:String)|tup (l:List D)|list (l:List D)
mutual
inductive du (σ:St):V→D→Prop
 |none:du σ .none .none
 |int (i:Int):du σ (.int i) (.int i)
 |str (s:String):du σ (.str s) (.str s)
 |tup {l:List V} {d:List D}:dM σ l d→du σ (.tup l) (.tup d)
 |list {n:Nat} {t:Tg} {l:List V} {d:List D}:σ.get n=some (.list t l)→dM σ l d→du σ (.ref n) (.list d)
inductive dM (σ:St):List V→List D→Prop
 |nil:dM σ [] []
 |cons {v:V} {d:D} {l:List V} {ds:List D}:du σ v d→dM σ l ds→dM σ (v::l) (d::ds)
end
mutual
noncomputable def D.depth:D→Nat
 | .tup l=>D.depths l+1
 | .list l=>D.depths l+1
 |_=>0
noncomputable def D.depths:List D→Nat
 |[]=>0
 |d::l=>max d.depth (D.depths l)
end
@[irreducible] noncomputable def sb (σ:St) (a b:V) (Q:Bool→Prop):Prop:=match a,b with
 | .bool x,.bool y=>Q (x==y)
 |_,_=>∃d e,du σ a d∧du σ b e∧d.depth≤20∧e.depth≤20∧∃r:Bool,(r=true↔d=e)∧Q r
noncomputable def eJ:V→Bool
 | .none=>false
 |_=>true
@[irreducible] noncomputable def i6 (σ:St) (a b:V) (Q:Bool→Prop):Prop:=match b with
 | .gdict l=>(match a with
  | .int i=>Q (l.lookup i).isSome
  |_=>False)
 | .ref n=>(match σ.get n with
  |some (.dict _ kd l)=>kk kd a=true∧Q (ae l a).isSome
  |some (.list _ l)=>∃d ds,du σ a d∧dM σ l ds∧d.depth≤8∧D.depths ds≤8∧∃r:Bool,(r=true↔d∈ds)∧Q r
  |_=>False)
 |_=>False
noncomputable def oz (a b:V) (P:Int→Int→Prop):Prop:=match a with
 | .int x=>(match b with| .int y=>P x y|_=>False)
 |_=>False
@[irreducible] noncomputable def bc (op:yJ) (σ:St) (a b:V) (Q:Bool→Prop):Prop:=match op with
 | .eq=>sb σ a b Q
 | .ne=>sb σ a b λ r=>Q (!r)
 | .lt=>oz a b λ x y=>Q (decide (x<y))
 | .le=>oz a b λ x y=>Q (decide (x≤y))
 | .gt=>oz a b λ x y=>Q (decide (x>y))
 | .ge=>oz a b λ x y=>Q (decide (x≥y))
 | .is=>(match b with| .none=>Q (!eJ a)|_=>False)
 | .isnot=>(match b with| .none=>Q (eJ a)|_=>False)
 | .isin=>i6 σ a b Q
 | .notin=>i6 σ a b λ r=>Q (!r)
noncomputable def rep:Nat→List V→List V
 |0,_=>[]
 |n+1,l=>l++rep n l
noncomputable def iD (op:A6) (a b:V) (σ:St) (Q:V→St→Prop):Prop:=match op with
 | .add=>(match a with
  | .int x=>(match b with| .int y=>Q (.int (x+y)) σ|_=>False)
  | .str x=>(match b with| .str y=>x.length+y.length≤1000∧Q (.str (x++y)) σ|_=>False)
  | .tup x=>(match b with| .tup y=>x.length+y.length≤aN∧Q (.tup (x++y)) σ|_=>False)
  | .ref n=>(match b with
   | .ref m=>(match σ.get n with
    |some (.list _ l)=>(match σ.get m with
     |some (.list _ r)=>l.length+r.length≤aN∧Q (.ref σ.len) (σ.new (.list aa (l++r)))
     |_=>False)
    |_=>False)
   |_=>False)
  |_=>False)
 | .sub=>oz a b λ x y=>Q (.int (x - y)) σ
 | .mul=>(match a with
  | .int x=>(match b with| .int y=>x.natAbs<2 ^ 60∧y.natAbs<2 ^ 60∧Q (.int (x*y)) σ|_=>False)
  | .tup x=>(match b with| .int y=>0≤y∧y≤2∧x.length=1∧Q (.tup (rep y.toNat x)) σ|_=>False)
  | .ref n=>(match b with
   | .int y=>(match σ.get n with
    |some (.list _ l)=>0≤y∧y≤1000∧l.length=1∧Q (.ref σ.len) (σ.new (.list aa (rep y.toNat l)))
    |_=>False)
   |_=>False)
  |_=>False)
 | .fdiv=>oz a b λ x y=>0<y∧y<1000000000∧Q (.int (x / y)) σ
 | .mod=>oz a b λ x y=>0<y∧Q (.int (x % y)) σ
 | .band=>oz a b λ x y=>0≤x∧0≤y∧Q (.int ((x.toNat &&& y.toNat:Nat):Int)) σ
noncomputable def dS (s:String) (i:Nat):Option String:=(s.toList[i]?).map λ c=>String.ofList [c]
noncomputable def c3 (l:List V) (i:Int):Option V:=if 0≤i then l[i.toNat]? else if i=-1 then l.getLast? else none
@[irreducible] noncomputable def fb (o i:V) (σ:St) (Q:V→St→Prop):Prop:=match o,i with
 | .tup l,.int k=>(match c3 l k with|some v=>Q v σ|none=>False)
 | .str s,.int k=>0≤k∧k<1000∧(match dS s k.toNat with|some c=>Q (.str c) σ|none=>False)
 | .ref n,i=>(match σ.get n with
  |some (.list _ l)=>(match i with| .int k=>(match c3 l k with|some v=>Q v σ|none=>False)|_=>False)
  |some (.dict _ kd l)=>kk kd i=true∧(match ae l i with|some v=>Q v σ|none=>False)
  |_=>False)
 |_,_=>False
noncomputable def cT (c n:String):Bool:=!(c=="Paths" && (n=="kind"||n=="kinds")) && !(c=="KindTable" && (n=="row"||n=="put"))
@[irreducible] noncomputable def nN (o:V) (n:String) (σ:St) (Q:V→St→Prop):Prop:=match o with
 | .ref r=>(match σ.get r with
  |some (.inst _ c as)=>cT c n=true∧(match cu as n with|some v=>Q v σ|none=>False)
  |_=>False)
 |_=>False
@[irreducible] noncomputable def kP (a:V) (σ:St) (Q:V→St→Prop):Prop:=match a with
 | .tup l=>Q (.int l.length) σ
 | .ref n=>(match σ.get n with
  |some (.list _ l)=>Q (.int l.length) σ
  |some (.dict _ _ l)=>Q (.int l.length) σ
  |_=>False)
 |_=>False
@[irreducible] noncomputable def eD (a:V) (σ:St) (Q:V→St→Prop):Prop:=match a with
 | .tup l=>Q (.tup l) σ
 | .ref n=>(match σ.get n with
  |some (.list _ l)=>Q (.tup l) σ
  |_=>False)
 |_=>False
@[irreducible] noncomputable def uQ (a:V) (σ:St) (Q:V→St→Prop):Prop:=match a with
 | .int i=>0≤i∧i<10∧Q (.str (toString i)) σ
 |_=>False
@[irreducible] noncomputable def bg (a:V) (σ:St) (Q:Bool→Prop):Prop:=match a with
 | .bool b=>Q b
 | .int i=>Q (decide (i≠0))
 | .ref n=>(match σ.get n with
  |some (.list _ l)=>Q (!l.isEmpty)
  |_=>False)
 |_=>False
@[irreducible] noncomputable def isList (u:V) (σ:St):Prop:=match u with
 | .ref n=>(match σ.get n with|some (.list _ _)=>True|_=>False)
 |_=>False
@[irreducible] noncomputable def ed (u:V) (σ:St):Prop:=match u with
 | .ref n=>(match σ.get n with|some (.dict _ _ _)=>True|_=>False)
 | .gdict _=>True
 |_=>False
@[irreducible] noncomputable def nq (o a:V) (σ:St) (Q:V→St→Prop):Prop:=match o with
 | .ref n=>(match σ.get n with
  |some (.list t l)=>l.length<aN∧Q .none (σ.put n (.list t (l++[a])))
  |_=>False)
 |_=>False
@[irreducible] noncomputable def nc (o:V) (σ:St) (Q:V→St→Prop):Prop:=match o with
 | .ref n=>(match σ.get n with
  |some (.list t l)=>(match l.getLast? with|some v=>Q v (σ.put n (.list t l.dropLast))|none=>False)
  |_=>False)
 |_=>False
noncomputable def AL:List D→D→Option Nat→Prop:=λ ds d r=>match r with
 |some i=>ds[i]? =some d∧∀j,j<i→ds[j]? ≠some d
 |none=>d∉ds
@[irreducible] noncomputable def gi (o a:V) (σ:St) (Q:V→St→Prop):Prop:=match o with
 | .ref n=>(match σ.get n with
  |some (.list _ l)=>∃d ds i,du σ a d∧dM σ l ds∧d.depth≤8∧D.depths ds≤8∧AL ds d (some i)∧Q (.int (i:Nat)) σ
  |_=>False)
 |_=>False
@[irreducible] noncomputable def jv (o k d:V) (σ:St) (Q:V→St→Prop):Prop:=match o with
 | .gdict l=>(match k,d with
  | .int i,.int j=>Q (.int ((l.lookup i).getD j)) σ
  |_,_=>False)
 | .ref n=>(match σ.get n with
  |some (.dict _ kd l)=>kk kd k=true∧Q ((ae l k).getD d) σ
  |_=>False)
 |_=>False
@[irreducible] noncomputable def fE (o k d:V) (σ:St) (Q:V→St→Prop):Prop:=match o with
 | .ref n=>(match σ.get n with
  |some (.dict t kd l)=>kk kd k=true∧l.length<aN∧(match ae l k with
   |some v=>Q v σ
   |none=>Q d (σ.put n (.dict t kd (l++[(k,d)]))))
  |_=>False)
 |_=>False
@[irreducible] noncomputable def cW (o k v:V) (σ:St) (Q:St→Prop):Prop:=match o with
 | .ref n=>(match σ.get n with
  |some (.dict t kd l)=>kk kd k=true∧l.length<aN∧Q (σ.put n (.dict t kd (bz l k v)))
  |some (.list t l)=>(match k with
   | .int i=>0≤i∧i<l.length∧Q (σ.put n (.list t (l.set i.toNat v)))
   |_=>False)
  |_=>False)
 |_=>False
@[irreducible] noncomputable def fh (o:V) (n:String) (v:V) (σ:St) (Q:St→Prop):Prop:=match o with
 | .ref r=>(match σ.get r with
  |some (.inst t c as)=>cT c n=true∧as.length≤90∧Q (σ.put r (.inst t c (pi as n v)))
  |_=>False)
 |_=>False
@[irreducible] noncomputable def jn (u v:V) (σ:St) (Q:V→St→Prop):Prop:=match u,v with
 | .ref n,.int k=>(match σ.get n with
  |some (.list _ l)=>0≤k∧Q (.ref σ.len) (σ.new (.list aa (l.take k.toNat)))
  |_=>False)
 | .rol l,.int k=>0≤k∧Q (.ref σ.len) (σ.new (.list aa ((l.map V.int).take k.toNat)))
 |_,_=>False
@[irreducible] noncomputable def iW (u:V) (σ:St) (Q:V→St→Prop):Prop:=match u with
 | .ref n=>(match σ.get n with
  |some (.list _ l)=>Q (.ref σ.len) (σ.new (.list aa l))
  |_=>False)
 |_=>False
@[irreducible] noncomputable def ia (u:V) (k:Nat) (σ:St) (Q:V→St→Prop):Prop:=match u with
 | .str s=>1≤k∧k≤s.length∧s.length≤1000∧Q (.str (String.ofList (s.toList.drop k))) σ
 |_=>False
@[irreducible] noncomputable def cq (a:V) (σ:St) (Q:List V→(St→Prop)→Prop):Prop:=match a with
 | .tup l=>Q l λ yy=>True
 | .ref n=>(match σ.get n with
  |some (.list t l)=>Q l λ σ'=>σ'.get n=some (.list t l)
  |_=>False)
 |_=>False
noncomputable def bG (a b:Int):List V:=(List.range (b - a).toNat).map λ (i:Nat)=>V.int (a+(i:Int))
noncomputable def er (guard:St→Prop) (f:V→St→(Option V→St→Prop)→Prop):List V→List V→St→(List V→St→Prop)→Prop
 |[],acc,σ,Q=>guard σ∧Q acc σ
 |v::vs,acc,σ,Q=>guard σ∧f v σ λ o σ'=>match o with
  |some y=>er guard f vs (acc++[y]) σ' Q
  |none=>er guard f vs acc σ' Q
noncomputable def cp:Option V→V
 |some v=>v
 |none=>.none
noncomputable def c2 (guard:St→Prop) (f:V→ax→St→(Option V→ax→St→Prop)→Prop):List V→ax→St→(Option V→ax→St→Prop)→Prop
 |[],ρ,σ,Q=>guard σ∧Q none ρ σ
 |v::vs,ρ,σ,Q=>guard σ∧f v ρ σ λ o ρ' σ'=>match o with
  |some y=>Q (some y) ρ' σ'
  |none=>c2 guard f vs ρ' σ' Q
noncomputable def ik (t:ax→St→(Bool→St→Prop)→Prop) (f:ax→St→(Option V→ax→St→Prop)→Prop):Nat→ax→St→(Option V→ax→St→Prop)→Prop
 |0,_,_,_=>False
 |n+1,ρ,σ,Q=>t ρ σ λ b σ'=>match b with
  |true=>f ρ σ' λ o ρ'' σ''=>(match o with
   |some y=>Q (some y) ρ'' σ''
   |none=>ik t f n ρ'' σ'' Q)
  |false=>Q none ρ σ'
noncomputable def mzz:List (String×String):=[("KindTable","row"),("KindTable","put"),("Paths","kind"),("Paths","kinds")]
noncomputable abbrev ak:=Fn→List V→St→(V→St→Prop)→Prop
noncomputable def tV (ρ:ax) (isTup:Bool) (l:List Nat) (v:V) (k:ax→Prop):Prop:=match isTup with
 |true=>(match v with| .tup vs=>vs.length=l.length∧k (jo ρ l vs)|_=>False)
 |false=>(match l with|[i]=>k (d9 ρ i v)|_=>False)
mutual
noncomputable def aH (C:ak):X→ax→St→(V→St→Prop)→Prop
 | .loc i,ρ,σ,Q=>(match bK ρ i with|some v=>Q v σ|none=>False)
 | .gn n,_,σ,Q=>(match G n with|some v=>Q v σ|none=>False)
 | .int i,_,σ,Q=>Q (.int i) σ
 | .str s,_,σ,Q=>Q (.str s) σ
 | .none,_,σ,Q=>Q .none σ
 | .tt b,_,σ,Q=>Q (.bool b) σ
 | .neg i,_,σ,Q=>Q (.int (-i)) σ
 | .bin op a b,ρ,σ,Q=>aH C a ρ σ λ u σ1=>aH C b ρ σ1 λ v σ2=>iD op u v σ2 Q
 | .cmp op a b,ρ,σ,Q=>aH C a ρ σ λ u σ1=>aH C b ρ σ1 λ v σ2=>bc op σ2 u v λ r=>Q (.bool r) σ2
 | .bool k l,ρ,σ,Q=>lG C k l ρ σ Q
 | .not_ _,_,_,_=>False
 | .ite t a b,ρ,σ,Q=>fe C t ρ σ λ r σ1=>match r with|true=>aH C a ρ σ1 Q|false=>aH C b ρ σ1 Q
 | .call f l,ρ,σ,Q=>aI C l ρ σ λ vs σ1=>C (.g f) vs σ1 Q
 | .new c l,ρ,σ,Q=>aI C l ρ σ λ vs σ1=>C (.m c "__init__") (.ref σ1.len::vs) (σ1.new (.inst aa c [])) λ r σ2=>r=.none∧Q (.ref σ1.len) σ2
 | .len a,ρ,σ,Q=>aH C a ρ σ λ v σ1=>kP v σ1 Q
 | .tupleOf a,ρ,σ,Q=>aH C a ρ σ λ v σ1=>eD v σ1 Q
 | .strOf a,ρ,σ,Q=>aH C a ρ σ λ v σ1=>uQ v σ1 Q
 | .meth o n l,ρ,σ,Q=>aH C o ρ σ λ v σ1=>(match v with
  | .ref r=>(match σ1.get r with
   |some (.inst _ c as)=>(c,n)∈mzz∧cu as n=none∧aI C l ρ σ1 λ vs σ2=>C (.m c n) (v::vs) σ2 Q
   |_=>False)
  |_=>False)
 | .lapp o a,ρ,σ,Q=>aH C o ρ σ λ u σ1=>(isList u σ1)∧aH C a ρ σ1 λ v σ2=>nq u v σ2 Q
 | .lpop o,ρ,σ,Q=>aH C o ρ σ λ u σ1=>isList u σ1∧nc u σ1 Q
 | .lindex o a,ρ,σ,Q=>aH C o ρ σ λ u σ1=>(isList u σ1)∧aH C a ρ σ1 λ v σ2=>gi u v σ2 Q
 | .dget o k d,ρ,σ,Q=>aH C o ρ σ λ u σ1=>(ed u σ1)∧aH C k ρ σ1 λ v σ2=>aH C d ρ σ2 λ w σ3=>jv u v w σ3 Q
 | .dsetd o k d,ρ,σ,Q=>aH C o ρ σ λ u σ1=>(ed u σ1)∧aH C k ρ σ1 λ v σ2=>aH C d ρ σ2 λ w σ3=>fE u v w σ3 Q
 | .attr o n,ρ,σ,Q=>aH C o ρ σ λ v σ1=>nN v n σ1 Q
 | .sub o i,ρ,σ,Q=>aH C o ρ σ λ u σ1=>aH C i ρ σ1 λ v σ2=>fb u v σ2 Q
 | .slTo o i,ρ,σ,Q=>aH C o ρ σ λ u σ1=>aH C i ρ σ1 λ v σ2=>jn u v σ2 Q
 | .slAll o,ρ,σ,Q=>aH C o ρ σ λ u σ1=>iW u σ1 Q
 | .slFrom o k,ρ,σ,Q=>aH C o ρ σ λ u σ1=>ia u k σ1 Q
 | .tup l,ρ,σ,Q=>aI C l ρ σ λ vs σ1=>Q (.tup vs) σ1
 | .list l,ρ,σ,Q=>aI C l ρ σ λ vs σ1=>Q (.ref σ1.len) (σ1.new (.list aa vs))
 | .dict kd ks l,ρ,σ,Q=>aI C l ρ σ λ vs σ1=>Q (.ref σ1.len) (σ1.new (.dict aa kd ((ks.map V.str).zip vs)))
 | .comp elt caps isTup tn it conds,ρ,σ,Q=>vf C it ρ σ λ items guard σ1=>
   er guard (λ v σ2 K=>tV (caps.map (bK ρ)++List.replicate tn none) isTup (List.range' caps.length tn) v λ ρ'=>
    jc C conds ρ' σ2 λ b σ3=>match b with
     |true=>aH C elt ρ' σ3 λ y σ4=>K (some y) σ4
     |false=>K none σ3) items [] σ1 λ vs σ5=>Q (.ref σ5.len) (σ5.new (.list aa vs))
 | .rng1 _,_,_,_=>False
 | .rng2 _ _,_,_,_=>False
 | .bad,_,_,_=>False
noncomputable def aI (C:ak):List X→ax→St→(List V→St→Prop)→Prop
 |[],_,σ,Q=>Q [] σ
 |x::l,ρ,σ,Q=>aH C x ρ σ λ v σ1=>aI C l ρ σ1 λ vs σ2=>Q (v::vs) σ2
noncomputable def lG (C:ak):Bool→List X→ax→St→(V→St→Prop)→Prop
 |_,[],_,_,_=>False
 |_,[x],ρ,σ,Q=>aH C x ρ σ Q
 |k,x::y::l,ρ,σ,Q=>aH C x ρ σ λ v σ1=>bg v σ1 λ b=>match b==k with
  |true=>lG C k (y::l) ρ σ1 Q
  |false=>Q v σ1
noncomputable def fe (C:ak):X→ax→St→(Bool→St→Prop)→Prop
 | .cmp op a b,ρ,σ,Q=>aH C a ρ σ λ u σ1=>aH C b ρ σ1 λ v σ2=>bc op σ2 u v λ r=>Q r σ2
 | .bool k l,ρ,σ,Q=>mK C k l ρ σ Q
 | .not_ a,ρ,σ,Q=>fe C a ρ σ λ b σ1=>Q (!b) σ1
 | .loc i,ρ,σ,Q=>(match bK ρ i with|some v=>bg v σ λ b=>Q b σ|none=>False)
 | .call f l,ρ,σ,Q=>aI C l ρ σ λ vs σ1=>C (.g f) vs σ1 λ v σ2=>bg v σ2 λ b=>Q b σ2
 | .bin op a b,ρ,σ,Q=>aH C a ρ σ λ u σ1=>aH C b ρ σ1 λ v σ2=>iD op u v σ2 λ v σ3=>bg v σ3 λ b=>Q b σ3
 | .tt b,_,σ,Q=>Q b σ
 |_,_,_,_=>False
noncomputable def mK (C:ak):Bool→List X→ax→St→(Bool→St→Prop)→Prop
 |k,[],_,σ,Q=>Q k σ
 |k,x::l,ρ,σ,Q=>fe C x ρ σ λ b σ1=>match b==k with
  |true=>mK C k l ρ σ1 Q
  |false=>Q b σ1
noncomputable def vf (C:ak):X→ax→St→(List V→(St→Prop)→St→Prop)→Prop
 | .rng1 a,ρ,σ,Q=>aH C a ρ σ λ v σ1=>(match v with
  | .int n=>0≤n∧n≤100000∧Q (bG 0 n) (λ yy=>True) σ1
  |_=>False)
 | .rng2 a b,ρ,σ,Q=>aH C a ρ σ λ u σ1=>aH C b ρ σ1 λ v σ2=>(match u,v with
  | .int m,.int n=>0≤m∧m≤100000∧0≤n∧n≤100000∧Q (bG m n) (λ yy=>True) σ2
  |_,_=>False)
 | .loc i,ρ,σ,Q=>(match bK ρ i with|some v=>cq v σ λ l g=>Q l g σ|none=>False)
 | .attr o n,ρ,σ,Q=>aH C o ρ σ λ v σ1=>nN v n σ1 λ v σ2=>cq v σ2 λ l g=>Q l g σ2
 | .sub o i,ρ,σ,Q=>aH C o ρ σ λ u σ1=>aH C i ρ σ1 λ v σ2=>fb u v σ2 λ v σ3=>cq v σ3 λ l g=>Q l g σ3
 | .slTo o i,ρ,σ,Q=>aH C o ρ σ λ u σ1=>aH C i ρ σ1 λ v σ2=>(match u,v with
  | .ref n,.int k=>(match σ2.get n with
   |some (.list _ l)=>0≤k∧Q (l.take k.toNat) (λ σ'=>σ'.get σ2.len=some (.list aa (l.take k.toNat))) (σ2.new (.list aa (l.take k.toNat)))
   |_=>False)
  | .rol l,.int k=>0≤k∧Q ((l.map V.int).take k.toNat) (λ σ'=>σ'.get σ2.len=some (.list aa ((l.map V.int).take k.toNat))) (σ2.new (.list aa ((l.map V.int).take k.toNat)))
  |_,_=>False)
 | .tup l,ρ,σ,Q=>aI C l ρ σ λ vs σ1=>Q vs (λ yy=>True) σ1
 | .call f l,ρ,σ,Q=>aI C l ρ σ λ vs σ1=>C (.g f) vs σ1 λ v σ2=>cq v σ2 λ l g=>Q l g σ2
 |_,_,_,_=>False
noncomputable def jc (C:ak):List X→ax→St→(Bool→St→Prop)→Prop
 |[],_,σ,Q=>Q true σ
 |x::l,ρ,σ,Q=>fe C x ρ σ λ b σ1=>match b with
  |true=>jc C l ρ σ1 Q
  |false=>Q false σ1
end
noncomputable def BL (C:ak) (t:T) (v:V) (ρ:ax) (σ:St) (Q:ax→St→Prop):Prop:=match t with
 | .loc i=>Q (d9 ρ i v) σ
 | .attr o n=>aH C o ρ σ λ u σ1=>fh u n v σ1 λ σ2=>Q ρ σ2
 | .sub o i=>aH C o ρ σ λ u σ1=>aH C i ρ σ1 λ k σ2=>cW u k v σ2 λ σ3=>Q ρ σ3
 | .tup l=>(match v with| .tup vs=>vs.length=l.length∧Q (jo ρ l vs) σ|_=>False)
mutual
noncomputable def HQ (C:ak):Y→ax→St→(Option V→ax→St→Prop)→Prop
 | .ex x,ρ,σ,Q=>aH C x ρ σ λ yy σ1=>Q none ρ σ1
 | .set t x,ρ,σ,Q=>aH C x ρ σ λ v σ1=>BL C t v ρ σ1 λ ρ' σ2=>Q none ρ' σ2
 | .aug i x,ρ,σ,Q=>(match bK ρ i with
  |some (.int a)=>aH C x ρ σ λ v σ1=>(match v with| .int b=>Q none (d9 ρ i (.int (a+b))) σ1|_=>False)
  |_=>False)
 | .ret x,ρ,σ,Q=>aH C x ρ σ λ v σ1=>Q (some v) ρ σ1
 | .ite t a b,ρ,σ,Q=>fe C t ρ σ λ r σ1=>match r with
  |true=>ah C a ρ σ1 Q
  |false=>ah C b ρ σ1 Q
 | .for_ isTup l it body,ρ,σ,Q=>vf C it ρ σ λ items guard σ1=>
   c2 guard (λ v ρ' σ2 K=>tV ρ' isTup l v λ ρ''=>ah C body ρ'' σ2 K) items ρ σ1 Q
 | .whl t body,ρ,σ,Q=>∃n,ik (fe C t) (ah C body) n ρ σ Q
 | .bad,_,_,_=>False
noncomputable def ah (C:ak):List Y→ax→St→(Option V→ax→St→Prop)→Prop
 |[],ρ,σ,Q=>Q none ρ σ
 |y::l,ρ,σ,Q=>HQ C y ρ σ λ o ρ' σ'=>match o with
  |none=>ah C l ρ' σ' Q
  |some v=>Q (some v) ρ' σ'
end
inductive bm (h:Heap):Value→D→Prop
 |none:bm h .none .none
 |int (i:Int) (t:Tok):bm h (.int i t) (.int i)
 |str (s:String) (t:Tok):bm h (.str (Str.ofString s) t) (.str s)
 |tup {a:Addr} {vs:List Value} {ds:List D}:h.IsTuple a vs.toArray→vs.length=ds.length→(∀(j:Nat) (v:Value) (d:D),vs[j]? =some v→ds[j]? =some d→bm h v d)→bm h (.ref a) (.tup ds)
 |list {a:Addr} {vs:List Value} {ds:List D}:h.IsList a vs.toArray→vs.length=ds.length→(∀(j:Nat) (v:Value) (d:D),vs[j]? =some v→ds[j]? =some d→bm h v d)→bm h (.ref a) (.list ds)
noncomputable def same {α:Type} (a b:α):Bool:=@decide (a=b) (Classical.propDecidable _)
theorem dA {α:Type} {a b:α}:same a b=true↔a=b:=@decide_eq_true_iff _ (Classical.propDecidable _)
theorem mV {α:Type} (a:α):same a a=true:=dA.mpr rfl
theorem tZ {α:Type} {a b:α} (h:a≠b):same a b=false:=@K3 _ (Classical.propDecidable _) h
theorem ic {α β:Type} {a b:α} {c d:β} (h:a=b↔c=d):same a b=same c d:=KW.mpr (dA.trans (h.trans dA.symm))
theorem pO {α:Type} [BEq α] [LawfulBEq α] (a b:α):(a==b)=same a b:=KW.mpr (Kk.trans dA.symm)
noncomputable abbrev rp (d e:D):Bool:=same d e
theorem iy (d e:D):rp d e=true↔d=e:=dA
theorem off {d e:D} (h:Nat.beq d.ctorIdx e.ctorIdx=false):rp d e=false:=tZ λ q=>KM h (q▸rfl)
theorem eH {a b:String} (h:Str.ofString a=Str.ofString b):a=b:=by
 rw [Str.ofString_eq_toList,Str.ofString_eq_toList] at h
 have h1:a.toList.map Char.toNat=b.toList.map Char.toNat:=congrArg (λ s:Str=>s.cps.toList) h
 exact String.toList_inj.mp ((List.map_inj_right (λ x y e=>Char.ext (UInt32.toNat_inj.mp e))).mp h1)
theorem ig (a b:String):(Str.ofString a==Str.ofString b)=(a==b):=
 KW.mpr (Kk.trans ((Iff.intro eH (congrArg _)).trans Kk.symm))
theorem iT {h:Heap} {a:Addr} {its its':Array Value} {T T':String} (x:∃o,h.get? a=some o∧o.cls=.type T∧∃n,o.data=.seq its n) (y:∃o,h.get? a=some o∧o.cls=.type T'∧∃n,o.data=.seq its' n):its=its'∧T=T':=
 x.elim λ o x=>y.elim λ o' y=>by
  have e:=J4 (x.1.symm.trans y.1)
  subst e
  refine ⟨x.2.2.elim λ n x=>y.2.2.elim λ n' y=>?_,?_⟩
  ·have e:=x.symm.trans y
   cases e;rfl
  ·have e:=x.2.1.symm.trans y.2.1
   cases e;rfl
theorem bm.det {h:Heap} {u:Value} {d e:D} (x:bm h u d):bm h u e→d=e:=by
 have go:∀{vs vs':List Value} {ds ds':List D},vs.toArray=vs'.toArray→vs.length=ds.length→vs'.length=ds'.length→(∀(j:Nat) (v:Value) (d:D),vs[j]? =some v→ds[j]? =some d→∀{e},bm h v e→d=e)→
   (∀(j:Nat) (v:Value) (d:D),vs'[j]? =some v→ds'[j]? =some d→bm h v d)→ds=ds':=λ {vs vs' ds ds'} e h2 k2 ih k3=>by
  have e:vs=vs':=congrArg Array.toList e
  subst e
  refine List.ext_getElem (h2.symm.trans k2) λ j hj hj'=>?_
  have hv:j<vs.length:=h2▸hj
  exact ih j vs[j] _ (JZ hv) (JZ hj) (k3 j _ _ (JZ hv) (JZ hj'))
 induction x generalizing e with
 |none=>intro y;cases y;rfl
 |int=>intro y;cases y;rfl
 |str s t=>intro y;generalize hq:Str.ofString s=q at y;cases y;rw [eH hq]
 |tup h1 h2 _ ih=>
  intro y
  cases y with
  |tup k1 k2 k3=>exact congrArg D.tup (go (iT h1 k1).1 h2 k2 ih k3)
  |list k1=>exact absurd (iT h1 k1).2 (by decide)
 |list h1 h2 _ ih=>
  intro y
  cases y with
  |list k1 k2 k3=>exact congrArg D.list (go (iT h1 k1).1 h2 k2 ih k3)
  |tup k1=>exact absurd (iT h1 k1).2 (by decide)
theorem cS:∀{ds:List D} {j:Nat} {d:D},ds[j]? =some d→d.depth≤D.depths ds
 |[],_,_,h=>by cases h
 |x::l,0,d,h=>J4 h▸Nat.le_max_left _ _
 |x::l,j+1,d,h=>JT (cS (ds:=l) h) (Nat.le_max_right _ _)
noncomputable def sX (a b:List D) (j:Nat):Bool:=same a[j]? b[j]?
theorem Ac {a b:List D}:(List.range (min a.length b.length)).all (sX a b)=true∧a.length=b.length↔a=b:=
 ⟨λ h=>List.ext_getElem? λ j=>if hj:j<a.length then dA.mp (KC.mp h.1 j (List.mem_range.mpr (Nat.lt_min.mpr ⟨hj,h.2▸hj⟩)))
  else (Lc (Nat.le_of_not_lt hj)).trans (Lc (h.2▸Nat.le_of_not_lt hj)).symm,
 λ h=>by subst h;exact ⟨KC.mpr λ yy yy=>mV _,rfl⟩⟩
theorem uJ (a b:List D):((List.range (min a.length b.length)).all (sX a b) && a.length==b.length)=same a b:=
 KW.mpr (J6.trans ((and_congr_right λ yy=>Kk).trans (Ac.trans dA.symm)))
theorem xY {vs vs':List Value} {ds ds':List D} (h2:vs.length=ds.length) (k2:vs'.length=ds'.length) {A:Around} {s:Shared}
  (ih:∀(j:Nat) (v v':Value) (d d':D),vs[j]? =some v→ds[j]? =some d→vs'[j]? =some v'→ds'[j]? =some d'→EqAt A s v v' (rp d d')):
  ∀j (h1:j<vs.toArray.size) (h2:j<vs'.toArray.size),EqAt A s vs.toArray[j] vs'.toArray[j] (sX ds ds' j):=λ j p q=>by
 have p:j<vs.length:=p
 have q:j<vs'.length:=q
 have pd:j<ds.length:=h2▸p
 have qd:j<ds'.length:=k2▸q
 have e:sX ds ds' j=rp ds[j] ds'[j]:=by unfold sX;rw [List.getElem?_eq_getElem pd,List.getElem?_eq_getElem qd];exact ic ⟨J4,congrArg some⟩
 exact e▸ih j vs[j] vs'[j] ds[j] ds'[j] (JZ p) (JZ pd) (JZ q) (JZ qd)
structure Ae (A:Around) (s:Shared) (u v:Value) (b:Bool):Prop where
 rc:RcAt A s u v b
 eq:EqAt A s u v b
 ne:RcNeAt A s u v (!b)
theorem aK {A:Around} {s:Shared} {u v:Value} {d e:D} (h:rp d e=false) (r:RcAt A s u v false) (q:EqAt A s u v false) (n:RcNeAt A s u v true):Ae A s u v (rp d e):=h.symm▸⟨r,q,n⟩
theorem nV {A:Around} {s:Shared} {u v:Value} {d e:D} {b:Bool} (h:b=rp d e) (x:Ae A s u v b):Ae A s u v (rp d e):=h▸x
theorem bm.says {s:Shared} {u v:Value} {d e:D} (x:bm s.heap u d) (y:bm s.heap v e):∀A:Around,A.units+d.depth+e.depth<cLine→Ae A s u v (rp d e):=by
 induction x generalizing v e with
 |none=>
  intro A hu0
  have hu:A.units<cLine:=JV (JT (JU _ _) (JU _ _)) hu0
  cases y with
  |none=>exact nV (mV D.none).symm ⟨.none_none,EqAt.same _,.none_none⟩
  |int i t=>exact aK (off rfl) (.none_int _ _) (.none_int _ _) (.none_int _ _)
  |str i t=>exact aK (off rfl) (.none_str _ _) (.none_str _ _) (.none_str _ _)
  |tup h1 _ _=>exact aK (off rfl) (.none_tuple h1 hu) (.none_tuple h1 hu) (.none_tuple h1 hu)
  |list h1 _ _=>exact aK (off rfl) (.none_list h1 hu) (.none_list h1 hu) (.none_list h1 hu)
 |int i t=>
  intro A hu0
  have hu:A.units<cLine:=JV (JT (JU _ _) (JU _ _)) hu0
  cases y with
  |none=>exact aK (off rfl) (.int_none _ _) (.int_none _ _) (.int_none _ _)
  |int j t'=>exact nV ((pO i j).trans (ic ⟨congrArg D.int,D.int.inj⟩)) ⟨.int_int _ _ _ _,.int_int _ _ _ _,.int_int _ _ _ _⟩
  |str i t=>exact aK (off rfl) (.int_str _ _ _ _) (.int_str _ _ _ _) (.int_str _ _ _ _)
  |tup h1 _ _=>exact aK (off rfl) (.int_tuple _ _ h1 hu) (.int_tuple _ _ h1 hu) (.int_tuple _ _ h1 hu)
  |list h1 _ _=>exact aK (off rfl) (.int_list _ _ h1 hu) (.int_list _ _ h1 hu) (.int_list _ _ h1 hu)
 |str i t=>
  intro A hu0
  have hu:A.units<cLine:=JV (JT (JU _ _) (JU _ _)) hu0
  cases y with
  |none=>exact aK (off rfl) (.str_none _ _) (.str_none _ _) (.str_none _ _)
  |int i t=>exact aK (off rfl) (.str_int _ _ _ _) (.str_int _ _ _ _) (.str_int _ _ _ _)
  |str j t'=>exact nV ((ig i j).trans ((pO i j).trans (ic ⟨congrArg D.str,D.str.inj⟩))) ⟨.str_str _ _ _ _,.str_str _ _ _ _,.str_str _ _ _ _⟩
  |tup h1 _ _=>exact aK (off rfl) (.str_tuple _ _ h1 hu) (.str_tuple _ _ h1 hu) (.str_tuple _ _ h1 hu)
  |list h1 _ _=>exact aK (off rfl) (.str_list _ _ h1 hu) (.str_list _ _ h1 hu) (.str_list _ _ h1 hu)
 |@tup a vs ds h1 h2 h3 ih=>
  intro A hu0
  have hu:A.units<cLine:=JV (JT (JU _ _) (JU _ _)) hu0
  cases y with
  |none=>exact aK (off rfl) (.tuple_none h1 hu) (.tuple_none h1 hu) (.tuple_none h1 hu)
  |int i t=>exact aK (off rfl) (.tuple_int _ _ h1 hu) (.tuple_int _ _ h1 hu) (.tuple_int _ _ h1 hu)
  |str i t=>exact aK (off rfl) (.tuple_str _ _ h1 hu) (.tuple_str _ _ h1 hu) (.tuple_str _ _ h1 hu)
  |list k1 _ _=>exact aK (off rfl) (.tuple_list h1 k1 hu) (.tuple_list h1 k1 hu) (.tuple_list h1 k1 hu)
  |@tup b vs' ds' k1 k2 k3=>
   have inn:=xY h2 k2 λ j v v' d d' e1 e2 e3 e4=>(ih j v d e1 e2 (k3 j v' d' e3 e4) A.in1 (by
     have:=cS e2;have:=cS e4
     have hu:A.units+(D.depths ds+1)+(D.depths ds'+1)<cLine:=hu0
     show A.units+1+d.depth+d'.depth<cLine
     omega)).eq
   have e:((List.range (min vs.toArray.size vs'.toArray.size)).all (sX ds ds') && vs.toArray.size==vs'.toArray.size)=rp (.tup ds) (.tup ds'):=by
    rw [List.size_toArray,List.size_toArray,h2,k2]
    exact (uJ ds ds').trans (ic ⟨congrArg D.tup,D.tup.inj⟩)
   have r:RcAt A s (.ref a) (.ref b) (rp (.tup ds) (.tup ds')):=e▸RcAt.tuples h1 k1 hu inn
   refine ⟨r,?_,e▸RcNeAt.tuples h1 k1 hu inn⟩
   by_cases hab:a=b
   ·subst hab
    exact (iy _ _).mpr (bm.det (.tup h1 h2 h3) (bm.tup k1 k2 k3))▸EqAt.same _
   ·exact .of_refs hab r
 |@list a vs ds h1 h2 h3 ih=>
  intro A hu0
  have hu:A.units<cLine:=JV (JT (JU _ _) (JU _ _)) hu0
  cases y with
  |none=>exact aK (off rfl) (.list_none h1 hu) (.list_none h1 hu) (.list_none h1 hu)
  |int i t=>exact aK (off rfl) (.list_int _ _ h1 hu) (.list_int _ _ h1 hu) (.list_int _ _ h1 hu)
  |str i t=>exact aK (off rfl) (.list_str _ _ h1 hu) (.list_str _ _ h1 hu) (.list_str _ _ h1 hu)
  |tup k1 _ _=>exact aK (off rfl) (.list_tuple h1 k1 hu) (.list_tuple h1 k1 hu) (.list_tuple h1 k1 hu)
  |@list b vs' ds' k1 k2 k3=>
   by_cases hsz:vs.length=vs'.length
   ·have inn:=xY h2 k2 λ j v v' d d' e1 e2 e3 e4=>(ih j v d e1 e2 (k3 j v' d' e3 e4) A.in1 (by
      have:=cS e2;have:=cS e4
      have hu:A.units+(D.depths ds+1)+(D.depths ds'+1)<cLine:=hu0
      show A.units+1+d.depth+d'.depth<cLine
      omega)).eq
    have hd:ds.length=ds'.length:=h2.symm.trans (hsz.trans k2)
    have e:(List.range vs.toArray.size).all (sX ds ds')=rp (.list ds) (.list ds'):=by
     rw [List.size_toArray,h2]
     have z:=uJ ds ds'
     rw [←hd,Nat.min_self,beq_self_eq_true,Bool.and_true] at z
     exact z.trans (ic ⟨congrArg D.list,D.list.inj⟩)
    have r:RcAt A s (.ref a) (.ref b) (rp (.list ds) (.list ds')):=e▸RcAt.lists h1 k1 hsz hu inn
    refine ⟨r,?_,e▸RcNeAt.lists h1 k1 hsz hu inn⟩
    by_cases hab:a=b
    ·subst hab
     exact (iy _ _).mpr (bm.det (.list h1 h2 h3) (bm.list k1 k2 k3))▸EqAt.same _
    ·exact .of_refs hab r
   ·have hz:(vs.toArray.size !=vs'.toArray.size)=true:=bne_iff_ne.mpr hsz
    have e:rp (.list ds) (.list ds')=false:=tZ λ q=>hsz (h2.trans ((congrArg List.length (D.list.inj q)).trans k2.symm))
    have r:=RcAt.lists_lengths h1 k1 hz hu
    exact aK e r (.of_refs (λ e=>hsz (by subst e;exact congrArg Array.size (iT h1 k1).1)) r) (RcNeAt.lists_lengths h1 k1 hz hu)
mutual
noncomputable def hZ:V→D
 | .int i=>.int i
 | .str s=>.str s
 | .tup l=>.tup (jT l)
 |_=>.none
noncomputable def jT:List V→List D
 |[]=>[]
 |v::l=>hZ v::jT l
end
mutual
noncomputable def Ci:D→V
 | .int i=>.int i
 | .str s=>.str s
 | .tup l=>.tup (wT l)
 |_=>.none
noncomputable def wT:List D→List V
 |[]=>[]
 |v::l=>Ci v::wT l
end
theorem toDs_map:∀l,jT l=l.map hZ
 |[]=>rfl
 |v::l=>congrArg (hZ v::·) (toDs_map l)
theorem nu {n:Nat} {v:V} {l:List V} (h:eL n (v::l)=true):ri n v=true∧eL n l=true:=J6.mp h
theorem xA {n:Nat} {l:List V} (h:ri n (.tup l)=true):∃k,n=k+1∧eL k l=true:=by
 cases n with
 |zero=>cases h
 |succ k=>exact ⟨k,rfl,h⟩
inductive nQ:Nat→V→Prop
 |int {n i}:nQ n (.int i)
 |str {n s}:nQ n (.str s)
 |tup {n l}:(∀v∈l,nQ n v)→nQ (n+1) (.tup l)
mutual
theorem xB:∀(k:V) (n:Nat),ri n k=true→nQ n k
 | .int _,_,_=>.int
 | .str _,_,_=>.str
 | .tup l,n,h=>(xA h).elim λ k h=>h.1▸.tup (rh l k h.2)
 | .none,_,h=>by cases h
 | .bool _,_,h=>by cases h
 | .ref _,_,h=>by cases h
 | .gdict _,_,h=>by cases h
 | .rol _,_,h=>by cases h
theorem rh:∀(l:List V) (n:Nat),eL n l=true→∀v∈l,nQ n v
 |[],_,_=>λ yy h=>absurd h Kf
 |v::l,n,h=>Kl.mpr ⟨xB v n (nu h).1,rh l n (nu h).2⟩
end
theorem ej:∀{l:List V},(∀v∈l,Ci (hZ v)=v)→wT (jT l)=l
 |[],_=>rfl
 |v::l,h=>by
  have h:=Kl.mp h
  show Ci (hZ v)::wT (jT l)=v::l
  rw [h.1,ej h.2]
theorem nQ.of {n:Nat} {k:V} (h:nQ n k):Ci (hZ k)=k:=by
 induction h with
 |int=>rfl
 |str=>rfl
 |tup _ ih=>exact congrArg V.tup (ej ih)
theorem hY {a b:V} {n m:Nat} (ha:nQ n a) (hb:nQ m b) (e:hZ a=hZ b):a=b:=ha.of.symm.trans ((congrArg Ci e).trans hb.of)
theorem gq {n:Nat}:∀{l:List V},(∀v∈l,(hZ v).depth≤n)→D.depths (jT l)≤n
 |[],_=>Kw _
 |v::l,h=>have h:=Kl.mp h;Nat.max_le.mpr ⟨h.1,gq h.2⟩
theorem nQ.depth {n:Nat} {k:V} (h:nQ n k):(hZ k).depth≤n:=by
 induction h with
 |int=>exact Kw _
 |str=>exact Kw _
 |tup _ ih=>exact Kj (gq ih)
theorem nQ.mono {n:Nat} {k:V} (h:nQ n k):nQ (n+1) k:=by
 induction h with
 |int=>exact .int
 |str=>exact .str
 |tup _ ih=>exact .tup ih
mutual
noncomputable def oG:V→Nat
 | .tup l=>kb l+1
 |_=>1
noncomputable def kb:List V→Nat
 |[]=>0
 |v::l=>oG v+kb l
end
section
variable {B:Bx}
theorem IsTuple.typeIs {s:Shared} {a:Addr} {its:Array Value} (x:s.heap.IsTuple a its):s.TypeIs (.ref a) "tuple":=let ⟨o,ho,hc,_⟩:=x;⟨o,ho,hc⟩
theorem lr {h:Heap} {u:Value} {l:List V} (x:bm h u (hZ (.tup l))):∃(a:Addr) (vs:List Value),u=.ref a∧h.IsTuple a vs.toArray∧vs.length=l.length∧∀(j:Nat) (v:Value) (k:V),vs[j]? =some v→l[j]? =some k→bm h v (hZ k):=by
 cases x with
 |tup h1 h2 h3=>exact ⟨_,_,rfl,h1,by rw [h2,toDs_map,List.length_map],λ j v k hv hk=>h3 j v _ hv (by rw [toDs_map,List.getElem?_map,hk];rfl)⟩
theorem yX (s:Shared) (a b:Nat):{{s with toks:=s.toks+a} with toks:=s.toks+a+b}={s with toks:=s.toks+(a+b)}:=by rw [Nat.add_assoc]
theorem nx {A:Around} {E:Value→Shared→Prop} {f:Value→Array Int→Sem (ForInStep (Array Int))} (hf:∀x b,f x b=(pyHash x>>=λ h=>pure (.yield (b.push h)))):∀(l:List V) (vs:List Value) (b:Array Int) (s:Shared) (Q:Array Int→Shared→Prop),vs.length=l.length→
  (∀(j:Nat) (v:Value) (k:V),vs[j]? =some v→l[j]? =some k→∀(s':Shared) (Q:Int→Shared→Prop),s'.heap=s.heap→Q (cH B k) {s' with toks:=s'.toks+oG k}→wpAny (model B.prog B.w) A (pyHash v) Q E s')→
  (∀b',b'.toList=b.toList++dJ B l→Q b' {s with toks:=s.toks+kb l})→wpAny (model B.prog B.w) A (forIn vs b f) Q E s
 |[],[],b,s,Q,_,_,q=>J7 (q b (List.append_nil _).symm)
 |[],_::_,_,_,_,h,_,_=>by cases h
 |_::_,[],_,_,_,h,_,_=>by cases h
 |k::l,v::vs,b,s,Q,h,ih,q=>by
  rw [List.forIn_cons,hf]
  exact JX (JX (ih 0 v k rfl rfl s _ rfl (J7 (nx hf l vs (b.push (cH B k)) _ Q (Lq h) (λ j v k hv hk s' Q e=>ih (j+1) v k hv hk s' Q e) λ b' e=>(yX s _ _)▸q b' (by rw [e,Array.toList_push,List.append_assoc];rfl)))))
theorem xS {n:Nat} {k:V} (hk:nQ n k):∀{u:Value} {s:Shared} {A:Around} {E:Value→Shared→Prop} {Q:Int→Shared→Prop},bm s.heap u (hZ k)→A.units+n<cLine→
  Q (cH B k) {s with toks:=s.toks+oG k}→wpAny (model B.prog B.w) A (pyHash u) Q E s:=by
 induction hk with
 |int=>intro u s A E Q hd hu h;cases hd;exact (intKind B.prog B.w).pyHash (intKind_is B.prog B.w _ _) h
 |str=>intro u s A E Q hd hu h;cases hd;exact (PySem.strKind B.prog B.w).pyHash (strKind_is B.prog B.w _ _) h
 |@tup n l hl ih=>
  intro u s A E Q hd hu h
  refine (lr hd).elim λ a k=>k.elim λ vs k=>k.1▸?_
  have hT:=IsTuple.typeIs k.2.1
  refine k.2.1.elim λ o ko=>ko.2.2.elim λ ep hdd=>?_
  unfold pyHash
  unfold pyHashByItsType
  refine JX (wpAny_cRoomFor_or (.inr (by omega)) ?_)
  refine JX (wpAny_specialOf hT F.slot_tuple_hash.lookup ?_)
  show wpAny _ _ (if (some (Value.builtin "tuple.__hash__")==some Value.none)=true then _ else _) Q E s
  rw [if_neg (by rw [beq_builtin_none];exact Lv)]
  refine JX (wpAny_specialOf hT F.slot_tuple_hash.lookup ?_)
  show wpAny _ _ (callSpecialIfBoundUnlessNone? (.ref a) "__hash__" _>>=_) Q E s
  refine JX (wpAny_callSpecialIfBoundUnlessNone?_slot hT F.slot_tuple_hash (wpAny_call_entry F.slot_tuple_hash hT F.entry_tuple_hash ?_ (F.args_tuple_hash_1 _)))
  show wpAny _ _ (Builtin.Tuple.tupleItemsOf (.ref a)>>=_) _ _ s
  refine JX (wpAny_tupleItemsOf ko.1 hdd (JX ?_))
  rw [←Array.forIn_toList]
  refine nx (λ yy yy=>rfl) l vs #[] s _ k.2.2.1 (λ j v k' hv hk s' Q' e q=>ih k' (Kh hk) (e▸k.2.2.2 j v k' hv hk) (by show A.units+1+n<cLine;omega) q) λ b hb=>?_
  show wpAny _ _ (retInt (Builtin.Tuple.tupleHashOf b.toList)) _ _ _
  rw [hb]
  refine wpAny_ret_mkInt ?_
  have e:(dJ B l)=[]++dJ B l:=rfl
  show wpAny _ _ (if (decide (-(2:Int) ^ 63≤Builtin.Tuple.tupleHashOf (dJ B l)) && decide (Builtin.Tuple.tupleHashOf (dJ B l)<2 ^ 63))=true then _ else _) Q E _
  have h:Q (if (decide (-(2:Int) ^ 63≤Builtin.Tuple.tupleHashOf (dJ B l)) && decide (Builtin.Tuple.tupleHashOf (dJ B l)<2 ^ 63))=true then _ else _) {s with toks:=s.toks+kb l+1}:=h
  by_cases hr:(decide (-(2:Int) ^ 63≤Builtin.Tuple.tupleHashOf (dJ B l)) && decide (Builtin.Tuple.tupleHashOf (dJ B l)<2 ^ 63))=true
  ·rw [if_pos hr]
   rw [if_pos hr] at h
   exact J7 h
  ·rw [if_neg hr]
   rw [if_neg hr] at h
   exact JX (wpAny_rule (J7 h))
theorem kC {A:Around} {E:Value→Shared→Prop} {s:Shared} {γ:Type} {r:Option Bool×γ} (hr:r.1=none) {n:Nat} {f:Value→Option Bool×γ→Sem (ForInStep (Option Bool×γ))} {Q:Option Bool×γ→Shared→Prop}:∀(vs:List Value),(∀v∈vs,∀Q,Q (ForInStep.yield r) s→wpAny (model B.prog B.w) A (f v r) Q E s)→Q r s→wpAny (model B.prog B.w) A (forIn vs r f) Q E s
 |[],_,q=>J7 q
 |v::vs,h,q=>by
  have h:=Kl.mp h
  rw [List.forIn_cons]
  exact JX (h.1 _ (kC hr (n:=n) vs h.2 q))
theorem uY {n:Nat} {k:V} (hk:nQ n k):∀{u:Value} {s:Shared} {A:Around} {E:Value→Shared→Prop} {Q:Bool→Shared→Prop},bm s.heap u (hZ k)→Q true s→wpAny (model B.prog B.w) A (eqIsQuiet n u) Q E s:=by
 induction hk with
 |int=>intro u s A E Q hd h;cases hd;rw [eqIsQuiet_byValue _ rfl];exact J7 h
 |str=>intro u s A E Q hd h;cases hd;rw [eqIsQuiet_byValue _ rfl];exact J7 h
 |@tup n l hl ih=>
  intro u s A E Q hd h
  refine (lr hd).elim λ a k=>k.elim λ vs k=>k.1▸?_
  have hT:=IsTuple.typeIs k.2.1
  refine k.2.1.elim λ o ko=>ko.2.2.elim λ ep hdd=>?_
  unfold eqIsQuiet
  refine JX (wpAny_specialOf hT F.slot_tuple_eq.lookup ?_)
  show wpAny _ _ (isInstance (.ref a) (.type "tuple")>>=_) _ _ s
  refine JX (wpAny_isInstance hT isSubtype_tuple_tuple ?_)
  simp only [Bool.not_true,Bool.false_eq_true,if_false]
  refine JX (wpAny_seqItems ko.1 hdd (JX ?_))
  show wpAny _ _ (forIn vs.toArray _ _) _ _ s
  rw [←Array.forIn_toList]
  refine kC rfl (n:=n) vs (λ v hv Q' q=>?_) (J7 h)
  refine (KN.mp hv).elim λ j hj=>?_
  have hlt:j<l.length:=k.2.2.1▸(Ka.mp hj).1
  have hk:=JZ hlt
  exact JX (ih l[j] (Kh hk) (k.2.2.2 j v l[j] hj hk) (by
   simp only [Bool.not_true,Bool.false_eq_true,if_false]
   exact J7 q))
end
theorem bm.keeps {h h':Heap} {d:Addr} {o:Obj} {es ep} (ho:h.get? d=some o) (hd:o.data=.dict es ep) (hs:Heap.SameBut d h h') {u:Value} {k:D} (x:bm h u k):bm h' u k:=by
 induction x with
 |none=>exact .none
 |int i t=>exact .int i t
 |str s t=>exact .str s t
 |@tup a vs ds h1 h2 _ ih=>
  obtain ⟨o',ho',hc,n,hd'⟩:=h1
  have hne:a≠d:=by
   rintro rfl
   rw [ho] at ho';cases ho'
   rw [hd] at hd';exact nomatch hd'
  exact .tup ⟨o',(hs.2 a hne).trans ho',hc,n,hd'⟩ h2 ih
 |@list a vs ds h1 h2 _ ih=>
  obtain ⟨o',ho',hc,n,hd'⟩:=h1
  have hne:a≠d:=by
   rintro rfl
   rw [ho] at ho';cases ho'
   rw [hd] at hd';exact nomatch hd'
  exact .list ⟨o',(hs.2 a hne).trans ho',hc,n,hd'⟩ h2 ih
noncomputable def hU (B:Bx):HeapKind B.prog B.w V where
 is:=λ h k a=>nQ 7 k∧bm h (.ref a) (hZ k)
 hash:=cH B
 draws:=oG
 room:=λ A=>A.units+40<cLine
 inj:=λ hx hy=>hY hx.1 hy.1 (hx.2.det hy.2)
 keeps:=λ x ho hd hs=>⟨x.1,x.2.keeps ho hd hs⟩
 pyHash:=λ {A E s k a Q} hu hk h=>xS hk.1 hk.2 (JV (JW (by decide) _) (show A.units+40<cLine from hu)) h
 eqBool:=λ {A E s x y a b Q} hu hx hy h=>by
  have hu:A.units+40<cLine:=hu
  have d1:=hx.1.depth
  have d2:=hy.1.depth
  refine (bm.says hx.2 hy.2 A (by omega)).eq B.prog B.w E Q ?_
  have e:rp (hZ x) (hZ y)=decide (x=y):=KW.mpr ((iy _ _).trans ((Iff.intro (hY hx.1 hy.1) (congrArg _)).trans decide_eq_true_iff.symm))
  exact e▸h
 quiet:=λ hk h=>uY hk.1.mono hk.2 h
structure Cx where
 base:Heap
 h₀:Heap
 A₀:Around
 outer:List Env
 L:Addr
 fenv:Env
 os:OsState
structure aJ (B:Bx) (c:Cx) (A:Around) (d:Nat):Prop where
 bl:Below c.A₀ c.base c.outer c.h₀
 X:B.K.In c.h₀
 T:TopRead B.p B.loose B.mg B.mb c.h₀
 fr:A.frames=some (c.fenv::c.outer)
 ff:c.fenv.frame=some c.L
 fk:c.fenv.scope.kind=.function
 hh:A.handled=none
 dep:A.depth+2*d<recursionLimit
 un:A.units+100+10*d<cLine
 low:sysModules<c.h₀.objs.size
 ro:∀a vs,B.ro=some (a,vs)→c.h₀.get? a=some (listOf vs.toArray 0)
theorem aJ.le {B:Bx} {c:Cx} {A:Around} {d d':Nat} (h:aJ B c A d) (hd:d'≤d):aJ B c A d':=
 ⟨h.bl,h.X,h.T,h.fr,h.ff,h.fk,h.hh,by have:=h.dep;omega,by have:=h.un;omega,h.low,h.ro⟩
structure aC (B:Bx) (c:Cx) (m:Str→Option Value) (σ:St) (φ:bh) (nw:ad) (s:Shared):Prop where
 F:Fr c.h₀ c.L s.heap m
 N:News c.h₀ c.L s.heap nw
 R:fY B σ φ nw
 g:s.gens=#[]
 o:s.os=c.os
noncomputable def aq (B:Bx) (c:Cx) (m:Str→Option Value) (φ:bh) (nw:ad) (Q:V→St→Prop) (u:Value) (s':Shared):Prop:=
 ∃v σ' φ' nw',Q v σ'∧VR B φ' nw' v u∧aC B c m σ' φ' nw' s'∧bI φ nw φ' nw'
noncomputable def bf (B:Bx) (c:Cx) (m:Str→Option Value) (φ:bh) (nw:ad) (Q:Bool→St→Prop) (b:Bool) (s':Shared):Prop:=
 ∃σ' φ' nw',Q b σ'∧aC B c m σ' φ' nw' s'∧bI φ nw φ' nw'
noncomputable def HA (B:Bx) (c:Cx) (m:Str→Option Value) (φ:bh) (nw:ad) (Q:List V→St→Prop) (us:List Value) (s':Shared):Prop:=
 ∃vs σ' φ' nw',Q vs σ'∧bC B φ' nw' vs us∧aC B c m σ' φ' nw' s'∧bI φ nw φ' nw'
noncomputable def rY (B:Bx) (c:Cx) (m:Str→Option Value) (φ:bh) (nw:ad) (Q:St→Prop) (_:Unit) (s':Shared):Prop:=
 ∃σ' φ' nw',Q σ'∧aC B c m σ' φ' nw' s'∧bI φ nw φ' nw'
section
variable {B:Bx} {c:Cx} {m:Str→Option Value} {σ:St} {φ:bh} {nw:ad} {s:Shared} {A:Around} {d:Nat}
theorem aC.tok (W:aC B c m σ φ nw s) (t:Nat):aC B c m σ φ nw {s with toks:=t}:=⟨W.F,W.N,W.R,W.g,W.o⟩
theorem aC.keep (W:aC B c m σ φ nw s) {h':Heap} (hk:∀b o,s.heap.get? b=some o→h'.get? b=some o) (t:Nat):aC B c m σ φ nw {s with heap:=h',toks:=t}:=
 ⟨W.F.keeps hk,W.N.grown hk,W.R,W.g,W.o⟩
theorem aC.X (W:aC B c m σ φ nw s) (K:aJ B c A d):B.K.In s.heap:=K.X.keeps W.F.keep
theorem aC.inK (W:aC B c m σ φ nw s) (K:aJ B c A d) {a:Addr} {o:Obj} (h:B.K.lookup a=some o):s.heap.get? a=some o:=W.X K _ _ h
theorem aC.inN (W:aC B c m σ φ nw s) {a:Addr} {o:Obj} (h:(a,o)∈nw):s.heap.get? a=some o:=(W.N _ h).1
theorem aC.sizeL (W:aC B c m σ φ nw s) (K:aJ B c A d):sysModules<s.heap.objs.size:=by
 have h1:=K.low
 have h2:=W.F.above
 have h3:=W.F.ns.lt
 exact JS h1 (JT h2 (Kb h3))
theorem aC.fresh (W:aC B c m σ φ nw s):s.heap.objs.size∉nw.map (·.1):=by
 intro h
 obtain ⟨p,hp,e⟩:=KB.mp h
 have:=Heap.lt_size (W.N p hp).1
 rw [e] at this
 exact Lw _ this
theorem aC.alloc (W:aC B c m σ φ nw s) (K:aJ B c A d) (o:Obj) (hz:mc o≤aN) (hf:o.isFreed=false:=by rfl) (t:Nat:=s.toks):aC B c m σ φ ((s.heap.objs.size,o)::nw) {s with heap:=s.heap.push o,toks:=t}:=
 ⟨W.F.push o,W.N.push W.F o hf,W.R.extra W.fresh hz (beq_eq_false_iff_ne.mpr (J8 (W.sizeL K))),W.g,W.o⟩
theorem aq.of {Q:V→St→Prop} {v:V} {u:Value} {s':Shared} (q:Q v σ) (x:VR B φ nw v u) (W:aC B c m σ φ nw s'):aq B c m φ nw Q u s':=⟨v,σ,φ,nw,q,x,W,.refl _ _⟩
theorem aq.trans {φ':bh} {nw':ad} {Q:V→St→Prop} {u:Value} {s':Shared} (X:bI φ nw φ' nw') (h:aq B c m φ' nw' Q u s'):aq B c m φ nw Q u s':=by
 obtain ⟨v,σ',φ'',news'',q,x,W,Y⟩:=h
 exact ⟨v,σ',φ'',news'',q,x,W,X.trans Y⟩
theorem bf.trans {φ':bh} {nw':ad} {Q:Bool→St→Prop} {u:Bool} {s':Shared} (X:bI φ nw φ' nw') (h:bf B c m φ' nw' Q u s'):bf B c m φ nw Q u s':=by
 obtain ⟨σ',φ'',news'',q,W,Y⟩:=h
 exact ⟨σ',φ'',news'',q,W,X.trans Y⟩
theorem sH {vs:List V} {us:List Value} {Q:V→St→Prop} {E:Value→Shared→Prop} (K:aJ B c A d) (W:aC B c m σ φ nw s) (x:bC B φ nw vs us) (hz:vs.length≤aN) (q:Q (.tup vs) σ):
  wpAny (model B.prog B.w) A (newTuple us) (aq B c m φ nw Q) E s:=by
 have hl:us.length≤aN:=by rw [←x.length];exact hz
 refine newTuple_N W.F W.N (λ h' F' N'=>?_) (by rw [sizeLine_eq];unfold aN at hl;omega)
 have R':=W.R.extra (o:=am us 0) W.fresh (by show us.toArray.size≤aN;simpa using hl) (beq_eq_false_iff_ne.mpr (J8 (W.sizeL K)))
 exact ⟨.tup vs,σ,φ,_,q,.tup (Ky) (x.mono W.R bI.extra),⟨F',N',R',W.g,W.o⟩,bI.extra⟩
theorem aC.last (W:aC B c m σ φ nw s) (p:Addr×Option Addr):(φ++[p])[σ.len]? =some p:=by
 show (φ++[p])[σ.objs.length]? =_
 rw [←W.R.len];simp
theorem aq.regList {φ₀:bh} {news₀:ad} {a:Addr} {us:List Value} {n:Nat} {vs:List V} {Q:V→St→Prop} (W:aC B c m σ φ nw s) (X:bI φ₀ news₀ φ nw) (hm:(a,listOf us.toArray n)∈nw) (hf:a∉news₀.map (·.1)) (ho:a∉aB φ)
  (x:bC B φ nw vs us) (t:Tg) (q:Q (.ref σ.len) (σ.new (.list t vs))):aq B c m φ₀ news₀ Q (.ref a) s:=by
 have R:=W.R.reg (o:=.list t vs) (a:=a) (d:=none) (.list hm (x.mono' (Ku _ _) λ yy yy yy h=>h)) (by simpa using ho) (by simp)
 exact ⟨.ref σ.len,_,_,_,q,.ref (d:=none) (W.last _),⟨W.F,W.N,R,W.g,W.o⟩,X.reg (by simpa using hf)⟩
theorem aq.regDict {φ₀:bh} {news₀:ad} {a:Addr} {es:List DictEntry} {n:Nat} {kd:Nat} {l:List (V×V)} {Q:V→St→Prop} (W:aC B c m σ φ nw s) (X:bI φ₀ news₀ φ nw) (hm:(a,dictOf es n)∈nw) (hf:a∉news₀.map (·.1)) (ho:a∉aB φ)
  (x:DR B φ nw kd l es) (hn:(l.map (·.1)).Nodup) (hl:l.length≤aN) (t:Tg) (q:Q (.ref σ.len) (σ.new (.dict t kd l))):aq B c m φ₀ news₀ Q (.ref a) s:=by
 have R:=W.R.reg (o:=.dict t kd l) (a:=a) (d:=none) (.dict hm (x.mono' (Ku _ _) λ yy yy yy h=>h) hn hl) (by simpa using ho) (by simp)
 exact ⟨.ref σ.len,_,_,_,q,.ref (d:=none) (W.last _),⟨W.F,W.N,R,W.g,W.o⟩,X.reg (by simpa using hf)⟩
theorem u5 {vs:List V} {us:List Value} {Q:V→St→Prop} {E:Value→Shared→Prop} (K:aJ B c A d) (W:aC B c m σ φ nw s) (x:bC B φ nw vs us) (hz:vs.length≤aN) (t:Tg) (q:Q (.ref σ.len) (σ.new (.list t vs))):
  wpAny (model B.prog B.w) A (newList us) (aq B c m φ nw Q) E s:=by
 have hl:us.length≤aN:=by rw [←x.length];exact hz
 refine newList_N W.F W.N (λ h' F' N'=>?_) (by rw [sizeLine_eq];unfold aN at hl;omega)
 have R':=W.R.extra (o:=listOf us.toArray 0) W.fresh (by show us.toArray.size≤aN;simpa using hl) (beq_eq_false_iff_ne.mpr (J8 (W.sizeL K)))
 exact aq.regList (n:=0) ⟨F',N',R',W.g,W.o⟩ bI.extra Ky W.fresh (W.R.off W.fresh) (x.mono W.R bI.extra) t q
end
section
variable {B:Bx} {c:Cx} {m:Str→Option Value} {σ:St} {φ:bh} {nw:ad} {s:Shared} {A:Around} {d:Nat}
@[elab_as_elim] theorem aC.at_ (W:aC B c m σ φ nw s) {n:Nat} {o:O} {u:Value} (hg:σ.get n=some o) (x:VR B φ nw (.ref n) u) {P:Value→Prop} (k:∀a d,φ[n]? =some (a,d)→OR B φ nw o a d→P (.ref a)):P u:=
 x.refE.elim λ a h=>h.elim λ d h=>(W.R.obj n _ hg).elim λ a' e=>e.elim λ d' e=>have q:=J4 (e.1.symm.trans h.1);h.2▸(Prod.mk.inj q).1▸k a' d' e.1 e.2
@[elab_as_elim] theorem aC.listK (W:aC B c m σ φ nw s) {n:Nat} {t:Tg} {l:List V} {u:Value} (hg:σ.get n=some (.list t l)) (x:VR B φ nw (.ref n) u) {P:Value→Prop}
  (k:∀a vs j,(a,listOf vs.toArray j)∈nw→bC B φ nw l vs→φ[n]? =some (a,none)→P (.ref a)):P u:=
 W.at_ hg x λ a d e o=>by cases o with|list h1 h2=>exact k a _ _ h1 h2 e
@[elab_as_elim] theorem aC.dictK (W:aC B c m σ φ nw s) {n:Nat} {t:Tg} {kd:Nat} {l:List (V×V)} {u:Value} (hg:σ.get n=some (.dict t kd l)) (x:VR B φ nw (.ref n) u) {P:Value→Prop}
  (k:∀a es j,(a,dictOf es j)∈nw→DR B φ nw kd l es→(l.map (·.1)).Nodup→φ[n]? =some (a,none)→l.length≤aN→P (.ref a)):P u:=
 W.at_ hg x λ a d e o=>by cases o with|dict h1 h2 h3 h4=>exact k a _ _ h1 h2 h3 e h4
@[elab_as_elim] theorem aC.instK (W:aC B c m σ φ nw s) {n:Nat} {t:Tg} {cn:String} {l:List (String×V)} {u:Value} (hg:σ.get n=some (.inst t cn l)) (x:VR B φ nw (.ref n) u) {P:Value→Prop}
  (k:∀a dx C es j,cn∈cI→jw B.K cn=some C→(a,instObj C dx)∈nw→(dx,dictOf es j)∈nw→AR B φ nw l es→l.length≤100→φ[n]? =some (a,some dx)→P (.ref a)):P u:=
 W.at_ hg x λ a d e o=>by cases o with|inst h0 h1 h2 h3 h4 h5=>exact k a _ _ _ _ h0 h1 h2 h3 h4 h5 e
theorem aC.list (W:aC B c m σ φ nw s) {n:Nat} {t:Tg} {l:List V} {u:Value} (hg:σ.get n=some (.list t l)) (x:VR B φ nw (.ref n) u):
  ∃a vs k,u=.ref a∧(a,listOf vs.toArray k)∈nw∧bC B φ nw l vs∧φ[n]? =some (a,none):=W.listK hg x λ a vs k h1 h2 h3=>⟨a,vs,k,rfl,h1,h2,h3⟩
theorem aC.isList (W:aC B c m σ φ nw s) {a:Addr} {vs:List Value} {k:Nat} (h:(a,listOf vs.toArray k)∈nw):s.heap.IsList a vs.toArray:=⟨_,W.inN h,rfl,k,rfl⟩
theorem aC.lenL (W:aC B c m σ φ nw s) {a:Addr} {vs:List Value} {k:Nat} (h:(a,listOf vs.toArray k)∈nw):vs.length≤aN:=by have:=W.R.sz _ h;simpa [mc] using this
@[elab_as_elim] theorem aC.tupK (K:aJ B c A d) (W:aC B c m σ φ nw s) {l:List V} {u:Value} (x:VR B φ nw (.tup l) u) {P:Value→Prop} (k:∀a vs,s.heap.IsTuple a vs.toArray→bC B φ nw l vs→l.length≤aN→VR B φ nw (.tup l) (.ref a)→P (.ref a)):P u:=by
 cases x with
 |tup h1 h2=>exact k _ _ ⟨_,W.inN h1,rfl,_,rfl⟩ h2 (h2.length▸W.R.sz _ h1) (.tup h1 h2)
 |ktup h1 h3 h2=>exact k _ _ ⟨_,W.inK K h1,rfl,_,rfl⟩ h2 (h2.length▸JT h3 (by decide)) (.ktup h1 h3 h2)
theorem aC.tuple (K:aJ B c A d) (W:aC B c m σ φ nw s) {l:List V} {u:Value} (x:VR B φ nw (.tup l) u):∃a vs,u=.ref a∧s.heap.IsTuple a vs.toArray∧bC B φ nw l vs∧l.length≤aN:=
 W.tupK K x λ a vs h1 h2 h3 yy=>⟨a,vs,rfl,h1,h2,h3⟩
noncomputable def c6 (h:Heap) (us:List Value) (es:List D):Prop:=us.length=es.length∧∀(j:Nat) (u:Value) (e:D),us[j]? =some u→es[j]? =some e→bm h u e
theorem c6.nil {h:Heap}:c6 h [] []:=⟨rfl,λ yy yy yy h=>by cases h⟩
theorem c6.cons {h:Heap} {u:Value} {e:D} {us:List Value} {es:List D} (x:bm h u e) (xs:c6 h us es):c6 h (u::us) (e::es):=
 ⟨congrArg (· +1) xs.1,λ j=>match j with
  |0=>λ u' e' hu he=>J4 hu▸J4 he▸x
  |j+1=>λ u' e' hu he=>xs.2 j u' e' hu he⟩
theorem ky (K:aJ B c A d) (W:aC B c m σ φ nw s):(∀{v:V} {e:D},du σ v e→∀{u:Value},VR B φ nw v u→bm s.heap u e)∧∀{l:List V} {es:List D},dM σ l es→∀{us:List Value},bC B φ nw l us→c6 s.heap us es:=by
 have key:(∀(v:V) (e:D) (h:du σ v e),∀u,VR B φ nw v u→bm s.heap u e)∧∀(l:List V) (es:List D) (h:dM σ l es),∀us,bC B φ nw l us→c6 s.heap us es:=
  ⟨λ v e h=>du.rec (motive_1:=λ v e yy=>∀u,VR B φ nw v u→bm s.heap u e) (motive_2:=λ l es yy=>∀us,bC B φ nw l us→c6 s.heap us es)
   (λ u x=>by cases x;exact .none) (λ i u x=>by cases x;exact .int _ _) (λ i u x=>by cases x;exact .str _ _)
   (λ yy ih u x=>W.tupK K x λ a vs h1 h2 yy yy=>.tup h1 (ih vs h2).1 (ih vs h2).2) (λ hg yy ih u x=>W.listK hg x λ a vs k h1 h2 yy=>.list (W.isList h1) (ih vs h2).1 (ih vs h2).2)
   (λ us x=>by cases x;exact .nil) (λ yy yy i1 i2 us x=>by cases x with|cons a b=>exact .cons (i1 _ a) (i2 _ b)) h,
  λ l es h=>dM.rec (motive_1:=λ v e yy=>∀u,VR B φ nw v u→bm s.heap u e) (motive_2:=λ l es yy=>∀us,bC B φ nw l us→c6 s.heap us es)
   (λ u x=>by cases x;exact .none) (λ i u x=>by cases x;exact .int _ _) (λ i u x=>by cases x;exact .str _ _)
   (λ yy ih u x=>W.tupK K x λ a vs h1 h2 yy yy=>.tup h1 (ih vs h2).1 (ih vs h2).2) (λ hg yy ih u x=>W.listK hg x λ a vs k h1 h2 yy=>.list (W.isList h1) (ih vs h2).1 (ih vs h2).2)
   (λ us x=>by cases x;exact .nil) (λ yy yy i1 i2 us x=>by cases x with|cons a b=>exact .cons (i1 _ a) (i2 _ b)) h⟩
 exact ⟨λ h yy x=>key.1 _ _ h _ x,λ h yy x=>key.2 _ _ h _ x⟩
theorem gd (K:aJ B c A d) (W:aC B c m σ φ nw s) {v:V} {e:D} (h:du σ v e) {u:Value} (x:VR B φ nw v u):bm s.heap u e:=(ky K W).1 h x
theorem ku (K:aJ B c A d) (W:aC B c m σ φ nw s) {l:List V} {es:List D} (h:dM σ l es) {us:List Value} (x:bC B φ nw l us):c6 s.heap us es:=(ky K W).2 h x
theorem bC.rep {l:List V} {us:List Value} (x:bC B φ nw l us) (n:Nat):bC B φ nw (Mine.rep n l) (List.replicate n us).flatten:=by
 induction n with
 |zero=>exact .nil
 |succ n ih=>rw [Mine.rep,List.replicate_succ,List.flatten_cons];exact x.append ih
theorem GU (us:List Value) (n:Nat):List.foldl (λ x1 x2=>x1++x2) #[] (List.replicate n us.toArray)=((List.replicate n us).flatten).toArray:=by
 have:∀(acc:List Value),List.foldl (λ x1 x2=>x1++x2) acc.toArray (List.replicate n us.toArray)=(acc++(List.replicate n us).flatten).toArray:=by
  induction n with
  |zero=>intro acc;simp
  |succ n ih=>
   intro acc
   rw [List.replicate_succ,List.foldl_cons,List.replicate_succ,List.flatten_cons]
   have:acc.toArray++us.toArray=(acc++us).toArray:=by simp
   rw [this,ih];simp
 simpa using this []
end
theorem i5:fillsNumberSlot (.type "tuple") "mul"=pure false:=
 PySem.fillsNumberSlot_seq (id:="tuple.__mul__") (r:=some (.builtin "tuple.__rmul__")) PySem.F.slot_tuple_mul.lookup (by decide+kernel) PySem.F.slot_tuple_rmul.lookup (by decide+kernel)
theorem nY:seqRepeat? (.type "tuple")=pure (some (.builtin "tuple.__mul__")):=by
 unfold seqRepeat?
 rw [PySem.seqSlot_of (T:="tuple") (name:="__mul__") (id:="tuple.__mul__") PySem.F.slot_tuple_mul.lookup (by decide+kernel),PySem.seqSlot_of (T:="tuple") (name:="__rmul__") (id:="tuple.__rmul__") PySem.F.slot_tuple_rmul.lookup (by decide+kernel)]
 rfl
theorem kY (a:Int) (t:Tok) (l:Addr) (o:Obj) (items:Array Value) (n:Nat) (hc:o.cls=.type "tuple") (hd:o.data=.seq items n):
  PySem.Meets (Builtin.«int.__rmul__» ⟨[.int a t,.ref l],[]⟩) (λ yy R s=>s.heap.get? l=some o∧R (.ok (.ret Value.notImplemented)) s):=
 .of_wp λ prog w A R s h=>by obtain ⟨c,dd,dt,sl⟩:=o;dsimp only at hc hd;subst hc hd;obtain ⟨hp,g,d,tk,os⟩:=s;obtain ⟨hl,h⟩:=h;wp_walk;exact ⟨_,rfl,h⟩
theorem lY (l:Addr) (o:Obj) (items:Array Value) (n:Nat) (u:Tok) (hc:o.cls=.type "tuple") (hd:o.data=.seq items n):
  PySem.Meets (Builtin.«tuple.__mul__» ⟨[.ref l,.int 1 u],[]⟩) (λ yy R s=>s.heap.get? l=some o∧R (.ok (.ret (.ref l))) s):=
 .of_wp λ prog w A R s h=>by
  obtain ⟨c,dd,dt,sl⟩:=o;dsimp only at hc hd;subst hc hd
  obtain ⟨hp,g,d,tk,os⟩:=s;obtain ⟨hl,h⟩:=h
  wp_walk
  exact ⟨_,rfl,h⟩
theorem kg (l:Addr) (o:Obj) (x:Value) (n:Nat) (u:Tok) (hc:o.cls=.type "tuple") (hd:o.data=.seq #[x] n):
  PySem.Meets (Builtin.«tuple.__mul__» ⟨[.ref l,.int 0 u],[]⟩) (λ yy R s=>s.heap.get? l=some o∧R (.ok (.ret (.ref s.heap.objs.size))) {s with heap:=s.heap.push {cls:=.type "tuple",data:=.seq #[]}}):=
 .of_wp λ prog w A R s h=>by
  obtain ⟨c,dd,dt,sl⟩:=o;dsimp only at hc hd;subst hc hd
  obtain ⟨hp,g,d,tk,os⟩:=s;obtain ⟨hl,h⟩:=h
  wp_walk
  exact ⟨_,rfl,h⟩
theorem lX (l:Addr) (o:Obj) (x:Value) (n:Nat) (u:Tok) (hc:o.cls=.type "tuple") (hd:o.data=.seq #[x] n):
  PySem.Meets (Builtin.«tuple.__mul__» ⟨[.ref l,.int 2 u],[]⟩) (λ yy R s=>s.heap.get? l=some o∧R (.ok (.ret (.ref s.heap.objs.size))) {s with heap:=s.heap.push {cls:=.type "tuple",data:=.seq #[x,x]}}):=
 .of_wp λ prog w A R s h=>by
  obtain ⟨c,dd,dt,sl⟩:=o;dsimp only at hc hd;subst hc hd
  obtain ⟨hp,g,d,tk,os⟩:=s;obtain ⟨hl,h⟩:=h
  have c5:¬(Builtin.Tuple.tupleTooMany (((#[x]:Array Value).size:Int)*2)=true):=by simp [Builtin.Tuple.tupleTooMany,sizeLine]
  have hz:(List.foldl (λ x1 x2=>x1++x2) #[] (List.replicate (2:Int).toNat #[x])).size≤sizeLine:=by
   rw [sizeLine_eq];simp [List.replicate]
  wp_walk
  exact ⟨_,rfl,h⟩
section
variable {B:Bx} {c:Cx} {m:Str→Option Value} {σ:St} {φ:bh} {nw:ad} {s:Shared} {A:Around} {d:Nat}
theorem Ir {a:Addr} {x:Value} {y:Int} {t:Tok} {Q:Value→Shared→Prop} {E:Value→Shared→Prop} (W:aC B c m σ φ nw s) (h1:s.heap.IsTuple a #[x]) (y0:0≤y) (y2:y≤2)
  (q1:y=1→Q (.ref a) s) (q2:∀us:List Value,us=(List.replicate y.toNat [x]).flatten→Q (.ref s.heap.objs.size) {s with heap:=s.heap.push (am us 0)}):
  wpAny (model B.prog B.w) A (binaryOp .Mult (.ref a) (.int y t)) Q E s:=by
 have hT:=IsTuple.typeIs h1
 obtain ⟨o,ho,hc,n,hd⟩:=h1
 refine wpAny_binaryOp_repeat_ref (T:="tuple") (U:="int") (by decide) hT (λ s'=>typeIs_int s' y t) i5 PySem.F.fills_int_mul PySem.F.slot_int_rmul nY PySem.F.slot_int_index.lookup
  (call_meets PySem.F.slot_int_rmul (typeIs_int s y t) PySem.F.entry_int_rmul (PySem.F.args_int_rmul_2 _ _) (kY y t a o _ n hc hd) ⟨ho,rfl,hT,?_⟩)
 have:y=0∨y=1∨y=2:=by omega
 rcases this with rfl|rfl|rfl
 ·exact call_meets PySem.F.slot_tuple_mul hT PySem.F.entry_tuple_mul (PySem.F.args_tuple_mul_2 _ _) (kg a o x n t hc hd) ⟨ho,q2 [] rfl⟩
 ·exact call_meets PySem.F.slot_tuple_mul hT PySem.F.entry_tuple_mul (PySem.F.args_tuple_mul_2 _ _) (lY a o _ n t hc hd) ⟨ho,q1 rfl⟩
 ·exact call_meets PySem.F.slot_tuple_mul hT PySem.F.entry_tuple_mul (PySem.F.args_tuple_mul_2 _ _) (lX a o x n t hc hd) ⟨ho,q2 [x,x] rfl⟩
end
noncomputable def zY:A6→Operator
 | .add=>.Add
 | .sub=>.Sub
 | .mul=>.Mult
 | .fdiv=>.FloorDiv
 | .mod=>.Mod
 | .band=>.BitAnd
noncomputable def oI:yJ→CmpOp
 | .eq=>.Eq
 | .ne=>.NotEq
 | .lt=>.Lt
 | .le=>.LtE
 | .gt=>.Gt
 | .ge=>.GtE
 | .is=>.Is
 | .isnot=>.IsNot
 | .isin=>.In
 | .notin=>.NotIn
theorem jV (a b:String):Str.ofString (a++b)=Str.ofString a++Str.ofString b:=by
 rw [Str.ofString_eq_toList,Str.ofString_eq_toList,Str.ofString_eq_toList]
 apply Str.ext'
 rw [Str.cps_append]
 simp [String.toList_append]
theorem bL (a:String):(Str.ofString a).length=a.length:=by
 rw [Str.ofString_eq_toList]
 show ((a.toList.map Char.toNat).toArray).size=_
 rw [List.size_toArray,List.length_map];exact String.length_toList
theorem ml {x:Int} (h:x.natAbs<2 ^ 60):Builtin.Int.intBits x≤64:=by
 unfold Builtin.Int.intBits
 split
 ·omega
 ·rename_i hx
  have h0:x.natAbs≠0:=by intro e;apply hx;simp [Int.natAbs_eq_zero.mp e]
  have:=(Nat.log2_lt h0).mpr h
  omega
theorem cC {n:Nat} (h:n≤aN):n≤sizeLine:=JT h (by rw [sizeLine_eq];decide)
theorem kN {σ:St} {n:Nat} {P:List V→Prop} (q:match σ.get n with
  |some (.list _ l)=>P l
  |_=>False):∃t l,σ.get n=some (.list t l)∧P l:=by
 cases h:σ.get n with
 |none=>rw [h] at q;exact q.elim
 |some o=>cases o with
  |list t l=>rw [h] at q;exact ⟨t,l,rfl,q⟩
  |_=>rw [h] at q;exact q.elim
section
variable {B:Bx} {c:Cx} {m:Str→Option Value} {σ:St} {φ:bh} {nw:ad} {s:Shared} {A:Around} {d:Nat} {E:Value→Shared→Prop}
@[elab_as_elim] theorem jt {v1 v2:V} {u1 u2:Value} (x1:VR B φ nw v1 u1) (x2:VR B φ nw v2 u2) {P:Int→Int→Prop} (q:oz v1 v2 P) {R:Value→Value→Prop} (k:∀x t y t',P x y→R (.int x t) (.int y t')):R u1 u2:=by
 cases v1 with
 |int x=>cases v2 with
  |int y=>exact VR.intK x1 λ yy=>VR.intK x2 λ yy=>k _ _ _ _ q
  |_=>exact q.elim
 |_=>exact q.elim
theorem aC.fresh1 (W:aC B c m σ φ nw s) (K:aJ B c A d) {o:Obj} (hz:mc o≤aN) {h':Heap} (F':Fr c.h₀ c.L h' m) (N':News c.h₀ c.L h' ((s.heap.objs.size,o)::nw)):aC B c m σ φ ((s.heap.objs.size,o)::nw) {s with heap:=h'}:=
 ⟨F',N',W.R.extra W.fresh hz (beq_eq_false_iff_ne.mpr (J8 (W.sizeL K))),W.g,W.o⟩
theorem n5 {us:List Value} {n:Nat} (h:us.length≤aN):mc (am us n)≤aN:=h
theorem kG {us:List Value} {n:Nat} (h:us.length≤aN):mc (listOf us.toArray n)≤aN:=h
theorem Hu {v1 v2:V} {u1 u2:Value} {Q:V→St→Prop} (K:aJ B c A d) (W:aC B c m σ φ nw s) (x1:VR B φ nw v1 u1) (x2:VR B φ nw v2 u2) (q:iD .add v1 v2 σ Q):wpAny (model B.prog B.w) A (binaryOp .Add u1 u2) (aq B c m φ nw Q) E s:=by
 cases v1 with
 |int x=>cases v2 with
  |int y=>exact VR.intK x1 λ yy=>VR.intK x2 λ yy=>add_int (aq.of q (.int _ _) (W.tok _))
  |_=>exact q.elim
 |str x=>cases v2 with
  |str y=>
   exact VR.strK x1 λ yy=>VR.strK x2 λ yy=>PyProof.Rows.add_str (λ t' tk=>jV x y▸aq.of q.2 (.str _ _) (W.tok _)) (by rw [bL,bL];exact cC (JT q.1 (by decide)))
  |_=>exact q.elim
 |tup x=>cases v2 with
  |tup y=>
   refine W.tupK K x1 λ a vs h1 r1 yy x1=>W.tupK K x2 λ b ws h2 r2 yy x2=>?_
   have hz:vs.length+ws.length≤aN:=by rw [←r1.length,←r2.length];exact q.1
   refine add_tuples W.F W.N h1 h2 (λ e=>?_) (λ yy e=>?_) (λ yy yy h' F' N'=>?_) (cC hz)
   ·have e:x=[]:=List.eq_nil_of_length_eq_zero (by rw [r1.length,e];rfl)
    have q:=q.2
    rw [e] at q
    exact aq.of (show Q (.tup y) σ from q) x2 W
   ·have e:y=[]:=List.eq_nil_of_length_eq_zero (by rw [r2.length,e];rfl)
    have q:=q.2
    rw [e,List.append_nil] at q
    exact aq.of q x1 W
   ·exact ⟨_,σ,φ,_,q.2,.tup (n:=0) (.head _) ((r1.append r2).mono W.R bI.extra),W.fresh1 K (n5 (Ll▸hz)) F' N',bI.extra⟩
  |_=>exact q.elim
 |ref n=>cases v2 with
  |ref n'=>
   exact (kN (P:=λ l=>match σ.get n' with
    |some (.list _ r)=>l.length+r.length≤aN∧Q (.ref σ.len) (σ.new (.list aa (l++r)))
    |_=>False) q).elim λ t q=>q.elim λ l q=>(kN (P:=λ r=>l.length+r.length≤aN∧Q (.ref σ.len) (σ.new (.list aa (l++r)))) q.2).elim λ t' p=>p.elim λ r p=>
    W.listK q.1 x1 λ a vs k h1 r1 yy=>W.listK p.1 x2 λ b ws k' h2 r2 yy=>by
     have hz:vs.length+ws.length≤aN:=by rw [←r1.length,←r2.length];exact p.2.1
     exact add_arrays W.F W.N (W.isList h1) (W.isList h2) (λ h' F' N'=>aq.regList (n:=0) (us:=vs++ws) (W.fresh1 K (kG (Ll▸hz)) F' N') bI.extra (.head _) W.fresh (W.R.off W.fresh) ((r1.append r2).mono W.R bI.extra) aa p.2.2) (cC hz)
  |_=>exact q.elim
 |_=>exact q.elim
theorem GD {v1 v2:V} {u1 u2:Value} {Q:V→St→Prop} (K:aJ B c A d) (W:aC B c m σ φ nw s) (x1:VR B φ nw v1 u1) (x2:VR B φ nw v2 u2) (q:iD .mul v1 v2 σ Q):wpAny (model B.prog B.w) A (binaryOp .Mult u1 u2) (aq B c m φ nw Q) E s:=by
 cases v1 with
 |int x=>cases v2 with
  |int y=>exact VR.intK x1 λ yy=>VR.intK x2 λ yy=>PyProof.Rows.mul_int (aq.of q.2.2 (.int _ _) (W.tok _)) (IntMulOk.of_left (ml q.1))
  |_=>exact q.elim
 |tup x=>cases v2 with
  |int y=>
   refine W.tupK K x1 λ a vs h1 r1 yy x1=>?_
   refine VR.intK x2 λ yy=>?_
   have hv:=r1.length.symm.trans q.2.2.1
   cases vs with
   |nil=>cases hv
   |cons u vs=>cases vs with
    |cons=>cases hv
    |nil=>
     exact Ir W h1 q.1 q.2.1 (λ e=>by
      have q:=q.2.2.2
      rw [e] at q
      have q:Q (.tup (x++[])) σ:=q
      rw [List.append_nil] at q
      exact aq.of q x1 W) λ us e=>by
      have r:=r1.rep y.toNat
      rw [←e] at r
      have hl:us.length≤aN:=JT (by rw [e,List.length_flatten,List.map_replicate,List.sum_replicate_nat];show y.toNat*1≤2;have:=q.2.1;omega) (by decide:2≤aN)
      exact ⟨_,σ,φ,_,q.2.2.2,.tup (n:=0) (.head _) (r.mono W.R bI.extra),W.alloc K (am us 0) (n5 hl),bI.extra⟩
  |_=>exact q.elim
 |ref n=>cases v2 with
  |int y=>
   exact (kN (P:=λ l=>0≤y∧y≤1000∧l.length=1∧Q (.ref σ.len) (σ.new (.list aa (Mine.rep y.toNat l)))) q).elim λ t q=>q.elim λ l q=>W.listK q.1 x1 λ a vs k h1 r1 yy=>by
    refine VR.intK x2 λ yy=>?_
    have q:=q.2
    have hv:=r1.length.symm.trans q.2.2.1
    have hl:((List.replicate y.toNat vs).flatten).length≤aN:=JT (by rw [List.length_flatten,List.map_replicate,List.sum_replicate_nat,hv];have:=q.2.1;omega) (by decide:1000≤aN)
    refine mul_list W.F W.N (W.inN h1) (KO (by decide) q.1) (K9 q.2.1 (by decide)) (by rw [List.size_toArray,hv];have:=q.2.1;omega) λ h' F' N'=>?_
    have hne:(vs.toArray.isEmpty=true)=False:=eq_false λ e=>by cases vs with
     |nil=>cases hv
     |cons=>cases e
    simp only [hne,if_false,GU] at N'
    exact aq.regList (n:=0) (W.fresh1 K (kG hl) F' N') bI.extra (.head _) W.fresh (W.R.off W.fresh) ((r1.rep y.toNat).mono W.R bI.extra) aa q.2.2.2
  |_=>exact q.elim
 |_=>exact q.elim
theorem Hq {op:A6} {v1 v2:V} {u1 u2:Value} {Q:V→St→Prop} (K:aJ B c A d) (W:aC B c m σ φ nw s) (x1:VR B φ nw v1 u1) (x2:VR B φ nw v2 u2) (q:iD op v1 v2 σ Q):
  wpAny (model B.prog B.w) A (binaryOp (zY op) u1 u2) (aq B c m φ nw Q) E s:=by
 cases op with
 |add=>exact Hu K W x1 x2 q
 |mul=>exact GD K W x1 x2 q
 |sub=>exact jt x1 x2 q λ x t y t' q=>PyProof.Rows.sub_int (aq.of q (.int _ _) (W.tok _))
 |fdiv=>exact jt x1 x2 q λ x t y t' q=>PyProof.Rows.floordiv_int (Int.ne_of_gt q.1) (Int.fdiv_eq_ediv_of_nonneg _ (Int.le_of_lt q.1)▸aq.of q.2.2 (.int _ _) (W.tok _)) (.inl (PyProof.noPylong_small (by have:=q.2.1;have:=q.1;omega)))
 |mod=>exact jt x1 x2 q λ x t y t' q=>PyProof.Rows.mod_int' (Int.ne_of_gt q.1) (Int.fmod_eq_emod_of_nonneg _ (Int.le_of_lt q.1)▸aq.of q.2 (.int _ _) (W.tok _))
 |band=>exact jt x1 x2 q λ x t y t' q=>PyProof.Rows.and_int (by
   unfold Builtin.bitAnd
   rw [decide_eq_true q.1,decide_eq_true q.2.1]
   exact aq.of q.2.2 (.int _ _) (W.tok _))
end
noncomputable def kR:List (V×V)→V→Option Nat
 |[],_=>none
 |(a,_)::l,k=>if a=k then some 0 else (kR l k).map (· +1)
inductive IZ (l:List (V×V)) (k:V):Prop
 |no:kR l k=none→ae l k=none→k∉l.map (·.1)→(∀v,bz l k v=l++[(k,v)])→IZ l k
 |at_ (i:Nat) (v:V):kR l k=some i→l[i]? =some (k,v)→ae l k=some v→(∀w,bz l k w=l.set i (k,w))→IZ l k
theorem Cr (k:V):∀l,IZ l k
 |[]=>.no rfl rfl Kf λ yy=>rfl
 |(a,b)::l=>by
  by_cases e:a=k
  ·subst e
   exact .at_ 0 b (if_pos rfl) rfl (if_pos rfl) λ w=>if_pos rfl
  ·have f1:kR ((a,b)::l) k=(kR l k).map (· +1):=if_neg e
   have f2:ae ((a,b)::l) k=ae l k:=if_neg e
   have f3:∀v,bz ((a,b)::l) k v=(a,b)::bz l k v:=λ v=>if_neg e
   cases Cr k l with
   |no h1 h2 h3 h4=>exact .no (f1.trans (by rw [h1];rfl)) (f2.trans h2) (λ h=>(KG.mp h).elim (λ q=>e q.symm) h3) λ v=>(f3 v).trans (congrArg _ (h4 v))
   |at_ i v h1 h2 h3 h4=>exact .at_ (i+1) v (f1.trans (by rw [h1];rfl)) h2 (f2.trans h3) λ w=>(f3 w).trans (congrArg _ (h4 w))
theorem ip {l:List (V×V)} {k:V} (h:k∉l.map (·.1)):kR l k=none:=by
 cases Cr k l with
 |no h1 _ h3 _=>exact h1
 |at_ i v h1 h2 _ _=>exact absurd (Ke (f:=(·.1)) (Kh h2)) h
theorem vd {l:List (V×V)} {k:V} (h:kR l k=none):ae l k=none∧∀v,bz l k v=l++[(k,v)]:=by
 cases Cr k l with
 |no _ h2 _ h4=>exact ⟨h2,h4⟩
 |at_ i v h1 _ _ _=>rw [h1] at h;cases h
theorem rg {k v w:V}:∀{l:List (V×V)} {i:Nat},l[i]? =some (k,v)→(l.set i (k,w)).map (·.1)=l.map (·.1)
 |[],_,_=>rfl
 |p::l,0,h=>by rw [Option.some.inj h];rfl
 |p::l,i+1,h=>congrArg (p.1::·) (rg (l:=l) (i:=i) h)
section
variable {B:Bx} {φ:bh} {nw:ad} {kd:Nat}
theorem DR.length {l:List (V×V)} {es:List DictEntry} (h:DR B φ nw kd l es):l.length=es.length:=by
 induction h with
 |nil=>rfl
 |cons _ _ _ _ ih=>exact congrArg (· +1) ih
theorem DR.get {l:List (V×V)} {es:List DictEntry} (h:DR B φ nw kd l es):∀{i:Nat} {k v:V},l[i]? =some (k,v)→∃uk uv,es[i]? =some ⟨cH B k,uk,uv⟩∧VR B φ nw k uk∧VR B φ nw v uv∧kk kd k=true:=by
 induction h with
 |nil=>intro i k v e;cases e
 |cons a b c _ ih=>
  intro i k v e
  cases i with
  |zero=>cases e;exact ⟨_,_,rfl,a,c,b⟩
  |succ i=>exact ih (i:=i) e
theorem DR.getE {l:List (V×V)} {es:List DictEntry} (h:DR B φ nw kd l es):∀{i:Nat} {en:DictEntry},es[i]? =some en→∃k v,l[i]? =some (k,v)∧VR B φ nw k en.key∧VR B φ nw v en.val∧kk kd k=true∧en.hash=cH B k:=by
 induction h with
 |nil=>intro i en e;cases e
 |cons a b c _ ih=>
  intro i en e
  cases i with
  |zero=>cases e;exact ⟨_,_,rfl,a,c,b,rfl⟩
  |succ i=>exact ih (i:=i) e
theorem DR.snoc {l:List (V×V)} {es:List DictEntry} (h:DR B φ nw kd l es) {k v:V} {uk uv:Value} (a:VR B φ nw k uk) (b:kk kd k=true) (c:VR B φ nw v uv):DR B φ nw kd (l++[(k,v)]) (es++[⟨cH B k,uk,uv⟩]):=by
 induction h with
 |nil=>exact .cons a b c .nil
 |cons p q r _ ih=>exact .cons p q r ih
theorem DR.set {l:List (V×V)} {es:List DictEntry} (h:DR B φ nw kd l es) {w:V} {uw:Value} (c:VR B φ nw w uw):∀{i:Nat} {k v:V},l[i]? =some (k,v)→DR B φ nw kd (l.set i (k,w)) (es.modify i λ e=>{e with val:=uw}):=by
 induction h with
 |nil=>intro i k v e;cases e
 |cons p q r t ih=>
  intro i k v e
  cases i with
  |zero=>cases e;exact .cons p q c t
  |succ i=>exact .cons p q r (ih (i:=i) e)
theorem xz {k:V} {i:Int} (h:kk kd k=true) (h0:kk kd (.int i)=true):∃i,k=.int i:=by
 have h0:kd % 3=0:=Kk.mp h0
 cases k with
 |int i=>exact ⟨i,rfl⟩
 |str s=>cases h0.symm.trans (Kk.mp h:kd % 3=1)
 |tup l=>cases h0.symm.trans (Kk.mp (J6.mp h).1:kd % 3=2)
 |_=>cases h
theorem sO {k:V} {i:String} (h:kk kd k=true) (h0:kk kd (.str i)=true):∃i,k=.str i:=by
 have h0:kd % 3=1:=Kk.mp h0
 cases k with
 |str i=>exact ⟨i,rfl⟩
 |int s=>cases h0.symm.trans (Kk.mp h:kd % 3=0)
 |tup l=>cases h0.symm.trans (Kk.mp (J6.mp h).1:kd % 3=2)
 |_=>cases h
theorem Cp {k:V} {l:List V} (h:kk kd k=true) (h0:kk kd (.tup l)=true):∃l,k=.tup l∧nQ 7 (.tup l):=by
 have h0:kd % 3=2:=Kk.mp (J6.mp h0).1
 cases k with
 |tup l=>exact ⟨l,rfl,xB _ _ (J6.mp h).2⟩
 |int s=>cases h0.symm.trans (Kk.mp h:kd % 3=0)
 |str l=>cases h0.symm.trans (Kk.mp h:kd % 3=1)
 |_=>cases h
theorem ul {l:List (V×V)} {es:List DictEntry} (h:DR B φ nw kd l es) {k:V} (p:DictEntry→Bool) (hp:∀k' en,VR B φ nw k' en.key→kk kd k'=true→p en=decide (k'=k)):es.findIdx? p=kR l k:=by
 induction h with
 |nil=>rfl
 |@cons k' v uk uv l es a b c _ ih=>
  rw [List.findIdx?_cons,hp _ _ a b,ih]
  show _=if k'=k then some 0 else (kR l k).map (· +1)
  by_cases e:k'=k
  ·rw [if_pos e,decide_eq_true e];rfl
  ·rw [if_neg e,decide_eq_false e];rfl
end
section
variable {B:Bx} {c:Cx} {m:Str→Option Value} {σ:St} {φ:bh} {nw:ad} {s:Shared} {A:Around} {d:Nat} {E:Value→Shared→Prop}
theorem bC.getV {l:List V} {us:List Value} (h:bC B φ nw l us):∀{i:Nat} {u:Value},us[i]? =some u→∃v,l[i]? =some v∧VR B φ nw v u:=by
 induction l generalizing us with
 |nil=>cases h;intro i u e;cases e
 |cons x l ih=>
  cases h with
  |cons a r=>
   intro i u e
   cases i with
   |zero=>cases e;exact ⟨_,rfl,a⟩
   |succ i=>exact ih r (i:=i) e
theorem xC (K:aJ B c A d) (W:aC B c m σ φ nw s) {n:Nat} {k:V} (h:nQ n k):∀{u:Value},VR B φ nw k u→bm s.heap u (hZ k):=by
 induction h with
 |int=>exact λ x=>x.intE.elim λ yy e=>e▸.int _ _
 |str=>exact λ x=>x.strE.elim λ yy e=>e▸.str _ _
 |@tup n l _ ih=>
  intro u x
  exact W.tupK K x λ a vs h1 r yy yy=>.tup h1 (by rw [toDs_map,List.length_map,r.length]) λ j v e hv he=>(r.getV hv).elim λ k' hk=>by
   rw [toDs_map,List.getElem?_map,hk.1] at he
   exact J4 he▸ih k' (Kh hk.1) hk.2
theorem kq (B:Bx) (s:String):cH B (.str s)=(PySem.strKind B.prog B.w).hash (Str.ofString s):=by unfold cH;rfl
theorem kZ (B:Bx) (i:Int):cH B (.int i)=(intKind B.prog B.w).hash i:=by unfold cH;rfl
theorem sU (K:aJ B c A d) (W:aC B c m σ φ nw s) {A':Around} (hA:A'.units+40<cLine) {a:Addr} {es:List DictEntry} {n:Nat} {kd:Nat} {l:List (V×V)} {k:V} {u:Value} (hm:(a,dictOf es n)∈nw) (D:DR B φ nw kd l es) (hn:(l.map (·.1)).Nodup)
  (x:VR B φ nw k u) (hk:kk kd k=true):∃t,
  (∀{Q:Int→Shared→Prop},Q (cH B k) {s with toks:=s.toks+t}→wpAny (model B.prog B.w) A' (pyHash u) Q E s)∧
  ∀{Q:Option Nat→Shared→Prop},Q (kR l k) {s with toks:=s.toks+t}→wpAny (model B.prog B.w) A' (dictFind a u (cH B k)) Q E {s with toks:=s.toks+t}:=by
 have ho:=W.inN hm
 have getE:∀e∈es.toArray,∃k,VR B φ nw k e.key∧kk kd k=true∧e.hash=cH B k:=λ e he=>(KN.mp (List.mem_toArray.mp he)).elim λ j hj=>(D.getE hj).elim λ k h=>h.elim λ v h=>⟨k,h.2.1,h.2.2.2⟩
 cases k with
 |int i=>
  obtain ⟨t,rfl⟩:=x.intE
  refine ⟨1,λ q=>(intKind B.prog B.w).pyHash (intKind_is _ _ i t) (kZ B i▸q),λ {Q} q=>?_⟩
  rw [kZ]
  refine wpAny_dictFind_of (s:={s with toks:=s.toks+1}) (intKind_is _ _ i t) ho rfl (λ e he=>(getE e he).elim λ k h=>(xz h.2.1 hk).elim λ i' e'=>?_) ?_
  ·subst e'
   refine ⟨i',?_,h.2.2⟩
   exact h.1.intE.elim λ yy y=>y▸intKind_is _ _ _ _
  ·rw [List.findIdx?_toArray,ul D (k:=.int i) _ λ k' en y hy=>?_]
   ·exact q
   ·refine (xz hy hk).elim λ i' e'=>?_
    subst e'
    obtain ⟨t',y⟩:=y.intE
    rw [y,KeyKind.is_eq_decide (intKind_is B.prog B.w i' _)]
    exact Lf.mpr ⟨λ e=>congrArg V.int e.symm,λ e=>(V.int.inj e).symm⟩
 |str i=>
  obtain ⟨t,rfl⟩:=x.strE
  refine ⟨1,λ q=>(PySem.strKind B.prog B.w).pyHash (strKind_is _ _ _ t) (kq B i▸q),λ {Q} q=>?_⟩
  rw [kq]
  refine wpAny_dictFind_of (s:={s with toks:=s.toks+1}) (strKind_is _ _ _ t) ho rfl (λ e he=>(getE e he).elim λ k h=>(sO h.2.1 hk).elim λ i' e'=>?_) ?_
  ·subst e'
   refine ⟨_,?_,h.2.2⟩
   exact h.1.strE.elim λ yy y=>y▸strKind_is _ _ _ _
  ·rw [List.findIdx?_toArray,ul D (k:=.str i) _ λ k' en y hy=>?_]
   ·exact q
   ·refine (sO hy hk).elim λ i' e'=>?_
    subst e'
    obtain ⟨t',y⟩:=y.strE
    rw [y,KeyKind.is_eq_decide (strKind_is B.prog B.w (Str.ofString i') _)]
    exact Lf.mpr ⟨λ e=>congrArg V.str (eH e).symm,λ e=>congrArg Str.ofString (V.str.inj e).symm⟩
 |tup w=>
  have isK:∀{k:V} {u:Value},kk kd k=true→VR B φ nw k u→∃b,u=.ref b∧(hU B).is s.heap k b:=λ h y=>(Cp h hk).elim λ l e=>by
   obtain ⟨rfl,hk7⟩:=e
   have hd:=xC K W hk7 y
   exact W.tupK K y (P:=λ u=>bm s.heap u (hZ (.tup l))→∃b,u=.ref b∧(hU B).is s.heap (.tup l) b) (λ a yy yy yy yy yy hd=>⟨a,rfl,hk7,hd⟩) hd
  refine (isK hk x).elim λ b hb=>?_
  obtain ⟨rfl,hkey⟩:=hb
  refine ⟨(hU B).draws (.tup w),λ q=>(hU B).pyHash hA hkey q,λ {Q} q=>?_⟩
  have hx:∃xs:List (V×Addr×Value),es=xs.map (entryOfKey (hU B))∧xs.map (·.1)=l.map (·.1)∧∀y∈xs,(hU B).is s.heap y.1 y.2.1:=by
   clear q hn hm ho getE
   induction D with
   |nil=>exact ⟨[],rfl,rfl,λ yy h=>absurd h Kf⟩
   |@cons v1 v2 u1 u2 l1 es1 y1 y2 y3 y4 ih=>
    refine ih.elim λ xs i=>(isK y2 y1).elim λ b' hb=>?_
    obtain ⟨rfl,hk'⟩:=hb
    exact ⟨(v1,b',u2)::xs,by rw [List.map_cons,←i.1];rfl,congrArg (v1::·) i.2.1,Kl.mpr ⟨hk',i.2.2⟩⟩
  obtain ⟨xs,rfl,x2,x3⟩:=hx
  have hnx:(xs.map (·.1)).Nodup:=x2▸hn
  refine wpAny_dictFind_heap (knd:=hU B) (s:={s with toks:=s.toks+(hU B).draws (.tup w)}) (k:=.tup w) (xs:=xs) (es:=(xs.map (entryOfKey (hU B))).toArray) (ep:=n) hA hkey ho rfl rfl x3 hnx (λ hno=>?_) (λ j p hj=>?_)
  ·have:kR l (.tup w)=none:=ip λ hm=>by
    rw [←x2] at hm
    exact (KB.mp hm).elim λ y hy=>(KN.mp hy.1).elim λ j hj=>hno j y.2 (hj.trans (congrArg some (Prod.ext hy.2 rfl)))
   exact this▸q
  ·have hl:(l.map (·.1))[j]? =some (.tup w):=by rw [←x2,List.getElem?_map,hj];rfl
   cases Cr (.tup w) l with
   |no _ _ h3 _=>exact absurd (Kh hl) h3
   |at_ i v h1 h2 _ _=>
    have e2:(l.map (·.1))[i]? =some (.tup w):=by rw [List.getElem?_map,h2];rfl
    have e3:=(List.getElem?_inj (Ka.mp e2).1 hn).mp (e2.trans hl.symm)
    rw [h1,e3] at q
    exact q
 |_=>cases hk
theorem aC.put (W:aC B c m σ φ nw s) {n:Nat} {a:Addr} {dd:Option Addr} {x:Addr} (hφ:φ[n]? =some (a,dd)) (hx:x=a∨some x=dd) {o o':Obj} (h:(x,o)∈nw) (hz:mc o'≤aN) (hne:∀vs n,o≠am vs n)
  {ob':O} (ho:OR B φ (Mine.setN nw x o') ob' a dd) {h':Heap} (hs:Heap.SameBut x s.heap h') (ho':h'.get? x=some o') (t:Nat):aC B c m (σ.put n ob') φ (Mine.setN nw x o') {s with heap:=h',toks:=t}:=
 ⟨W.F.update W.N h hs,Mine.News.setN W.N hs ho' (Ke (f:=(·.1)) h),W.R.put hφ hx h hz hne ho,W.g,W.o⟩
theorem jb (K:aJ B c A d) (W:aC B c m σ φ nw s) {A':Around} (hA:A'.units+40<cLine) {a:Addr} {es:List DictEntry} {n:Nat} {kd:Nat} {l:List (V×V)} {k:V} {u:Value} (hm:(a,dictOf es n)∈nw) (D:DR B φ nw kd l es) (hn:(l.map (·.1)).Nodup)
  (x:VR B φ nw k u) (hk:kk kd k=true) {Q:Option Value→Shared→Prop} (q0:ae l k=none→∀t,Q none {s with toks:=t}) (q1:∀v uv,ae l k=some v→VR B φ nw v uv→∀t,Q (some uv) {s with toks:=t}):
  wpAny (model B.prog B.w) A' (dictGet a u) Q E s:=(sU (E:=E) K W hA hm D hn x hk).elim λ t f=>by
 unfold dictGet
 refine Kq (JX (f.1 (JX (f.2 ?_))))
 cases Cr k l with
 |no h1 h2 _ _=>rw [h1];exact J7 (q0 h2 _)
 |at_ i v h1 h2 h3 _=>
  rw [h1]
  refine (D.get h2).elim λ uk e=>e.elim λ uv e=>JX (wpAny_dictEntries (s:={s with toks:=s.toks+t}) (W.inN hm) rfl ?_)
  rw [List.getElem?_toArray,e.1]
  exact J7 (q1 v uv h3 e.2.2.1 _)
theorem DR.setN {kd:Nat} {l:List (V×V)} {es:List DictEntry} (D:DR B φ nw kd l es) (nn:(nw.map (·.1)).Nodup) {a:Addr} {o:Obj} (h:(a,o)∈nw) (hne:∀vs n,o≠am vs n) (o':Obj):DR B φ (Mine.setN nw a o') kd l es:=
 D.mono' (J1 _) λ yy yy yy hx=>au hx λ e=>by subst e;exact hne _ _ (aM nn h hx)
theorem VR.setN {v:V} {u:Value} (x:VR B φ nw v u) (nn:(nw.map (·.1)).Nodup) {a:Addr} {o:Obj} (h:(a,o)∈nw) (hne:∀vs n,o≠am vs n) (o':Obj):VR B φ (Mine.setN nw a o') v u:=
 x.mono' (J1 _) λ yy yy yy hx=>au hx λ e=>by subst e;exact hne _ _ (aM nn h hx)
theorem bC.setN {v:List V} {u:List Value} (x:bC B φ nw v u) (nn:(nw.map (·.1)).Nodup) {a:Addr} {o:Obj} (h:(a,o)∈nw) (hne:∀vs n,o≠am vs n) (o':Obj):bC B φ (Mine.setN nw a o') v u:=
 x.mono' (J1 _) λ yy yy yy hx=>au hx λ e=>by subst e;exact hne _ _ (aM nn h hx)
theorem bw (es:List DictEntry) (n:Nat):∀vs k,dictOf es n≠am vs k:=λ yy yy e=>by simp at e
theorem dY (es:Array Value) (n:Nat):∀vs k,listOf es n≠am vs k:=λ yy yy e=>by simp at e
theorem re {α:Type} {l:List α} {a:α} (h:l.length<aN):(l++[a]).length≤aN:=by rw [List.length_append];exact h
theorem wD (W:aC B c m σ φ nw s) {a:Addr} {es:List DictEntry} {n:Nat} {kd:Nat} {l:List (V×V)} {k v:V} {u uv:Value} (hm:(a,dictOf es n)∈nw) (D:DR B φ nw kd l es) (hn:(l.map (·.1)).Nodup) (x:VR B φ nw k u) (hk:kk kd k=true) (y:VR B φ nw v uv) (hl:l.length<aN) (hi:k∉l.map (·.1)) {t:Nat} {R:Shared→Prop}
  (q:∀es' n',DR B φ (setN nw a (dictOf es' n')) kd (l++[(k,v)]) es'→((l++[(k,v)]).map (·.1)).Nodup→es'.length≤aN→∀h' t,Heap.SameBut a s.heap h'→h'.get? a=some (dictOf es' n')→R {s with heap:=h',toks:=t}):
  R {s with heap:=s.heap.update a (Obj.mapDictKeys λ x=>x.push ⟨cH B k,u,uv⟩),toks:=t}:=by
 refine q (es++[⟨cH B k,u,uv⟩]) (n+1) ((D.snoc x hk y).setN W.R.nn hm (bw _ _) _) ?_ (re (D.length▸hl)) _ _ (Heap.SameBut.update ..) ?_
 ·rw [List.map_append,List.nodup_append]
  exact ⟨hn,KE.mpr ⟨Kf,KL⟩,λ a ha b hb e=>hi ((show a=k from e.trans (Ko.mp hb))▸ha)⟩
 ·rw [Heap.get?_update_self (f:=Obj.mapDictKeys λ x=>x.push ⟨cH B k,u,uv⟩) (W.inN hm) rfl]
  simp [Obj.mapDictKeys]
theorem pM {kd:Nat} {l:List (V×V)} {es:List DictEntry} (D:DR B φ nw kd l es) (hl:l.length<aN):es.toArray.size≤sizeLine:=
 cC (by rw [List.size_toArray,←D.length];exact Kb hl)
theorem nz (K:aJ B c A d) (W:aC B c m σ φ nw s) {A':Around} (hA:A'.units+40<cLine) {a:Addr} {es:List DictEntry} {n:Nat} {kd:Nat} {l:List (V×V)} {k v:V} {u uv:Value} (hm:(a,dictOf es n)∈nw) (D:DR B φ nw kd l es) (hn:(l.map (·.1)).Nodup)
  (x:VR B φ nw k u) (hk:kk kd k=true) (y:VR B φ nw v uv) (hl:l.length<aN) {Q:Unit→Shared→Prop}
  (q:∀es' n',DR B φ (setN nw a (dictOf es' n')) kd (bz l k v) es'→((bz l k v).map (·.1)).Nodup→es'.length≤aN→∀h' t,Heap.SameBut a s.heap h'→h'.get? a=some (dictOf es' n')→Q () {s with heap:=h',toks:=t}):
  wpAny (model B.prog B.w) A' (dictSet a u uv) Q E s:=(sU (E:=E) K W hA hm D hn x hk).elim λ t f=>by
 have ho:=W.inN hm
 unfold dictSet
 refine Kq (JX (f.1 ?_))
 unfold dictSetHashed
 refine Kq (JX (f.2 ?_))
 cases Cr k l with
 |no h1 _ h3 h4=>
  rw [h1]
  rw [h4] at q
  exact JX (wpAny_rule (wpAny_updateDictKeys (s:={s with toks:=s.toks+t}) (hz:=pM D hl) ho rfl (wD W hm D hn x hk y hl h3 q)))
 |at_ i v0 h1 h2 _ h4=>
  rw [h1]
  rw [h4] at q
  refine JX (wpAny_rule (JX (wpAny_updateDict (s:={s with toks:=s.toks+t}) ho rfl (wpAny_point ?_))))
  refine q (es.modify i λ e=>{e with val:=uv}) n ((D.set y h2).setN W.R.nn hm (bw _ _) _) (rg h2▸hn) (by rw [List.length_modify,←D.length];exact Kb hl) _ _ (Heap.SameBut.update ..) ?_
  rw [Heap.get?_update_self (f:=Obj.mapDict λ x=>x.modify i λ e=>{e with val:=uv}) ho rfl]
  simp [Obj.mapDict]
theorem ja (K:aJ B c A d) (W:aC B c m σ φ nw s) {A':Around} (hA:A'.units+40<cLine) {a:Addr} {es:List DictEntry} {n:Nat} {kd:Nat} {l:List (V×V)} {k v:V} {u uv:Value} (hm:(a,dictOf es n)∈nw) (D:DR B φ nw kd l es) (hn:(l.map (·.1)).Nodup)
  (x:VR B φ nw k u) (hk:kk kd k=true) (y:VR B φ nw v uv) (hl:l.length<aN) {Q:Value→Shared→Prop}
  (q1:∀v uv,ae l k=some v→VR B φ nw v uv→∀t,Q uv {s with toks:=t})
  (q0:ae l k=none→∀es' n',DR B φ (setN nw a (dictOf es' n')) kd (l++[(k,v)]) es'→((l++[(k,v)]).map (·.1)).Nodup→es'.length≤aN→∀h' t,Heap.SameBut a s.heap h'→h'.get? a=some (dictOf es' n')→Q uv {s with heap:=h',toks:=t}):
  wpAny (model B.prog B.w) A' (dictSetDefault a u uv) Q E s:=(sU (E:=E) K W hA hm D hn x hk).elim λ t f=>by
 have ho:=W.inN hm
 unfold dictSetDefault
 refine Kq (JX (f.1 (JX (f.2 ?_))))
 cases Cr k l with
 |no h1 h2 h3 _=>
  rw [h1]
  exact JX (wpAny_rule (JX (wpAny_updateDictKeys (s:={s with toks:=s.toks+t}) (hz:=pM D hl) ho rfl (J7 (wD W hm D hn x hk y hl h3 (q0 h2))))))
 |at_ i v0 h1 h2 h3 _=>
  rw [h1]
  refine (D.get h2).elim λ uk e=>e.elim λ uv' e=>JX (wpAny_dictEntries (s:={s with toks:=s.toks+t}) ho rfl ?_)
  rw [List.getElem?_toArray,e.1]
  exact JX (wpAny_rule (J7 (q1 _ _ h3 e.2.2.1 _)))
end
theorem c6.get {h:Heap} {us:List Value} {es:List D} (x:c6 h us es) {j:Nat} {u:Value} (hu:us[j]? =some u):∃e,es[j]? =some e∧bm h u e:=
 have hl:j<es.length:=x.1▸(Ka.mp hu).1
 ⟨es[j],JZ hl,x.2 j u _ hu (JZ hl)⟩
theorem c6.getE {h:Heap} {us:List Value} {es:List D} (x:c6 h us es) {j:Nat} {e:D} (hu:es[j]? =some e):∃u,us[j]? =some u∧bm h u e:=
 have hl:j<us.length:=x.1▸(Ka.mp hu).1
 ⟨us[j],JZ hl,x.2 j _ _ (JZ hl) hu⟩
theorem c6.mem {h:Heap} {us:List Value} {es:List D} (x:c6 h us es) {e:D}:(∃u,u∈us∧bm h u e)↔e∈es:=
 ⟨λ k=>k.elim λ u k=>(KN.mp k.1).elim λ j hj=>(x.get hj).elim λ e' q=>q.2.det k.2▸Kh q.1,
 λ k=>(KN.mp k).elim λ j hj=>(x.getE hj).elim λ u q=>⟨u,Kh q.1,q.2⟩⟩
noncomputable def vg (h:Heap) (e:D) (u:Value):Bool:=@decide (bm h u e) (Classical.propDecidable _)
theorem j8 {h:Heap} {u:Value} {e:D}:vg h e u=true↔bm h u e:=@decide_eq_true_iff _ (Classical.propDecidable _)
theorem uq {h:Heap} {u:Value} {d e:D} (x:bm h u d):rp d e=vg h e u:=KW.mpr ((iy _ _).trans ((Iff.intro (λ q=>q▸x) x.det).trans j8.symm))
theorem uI {h:Heap} {us:List Value} {es:List D} (x:c6 h us es) {e:D} {r:Bool} (hr:r=true↔e∈es):us.toArray.any (vg h e)=r:=
 KW.mpr (by
  rw [List.any_toArray,List.any_eq_true,hr,←x.mem]
  exact exists_congr λ u=>and_congr_right λ yy=>j8)
section
variable {B:Bx} {c:Cx} {m:Str→Option Value} {σ:St} {φ:bh} {nw:ad} {s:Shared} {A:Around} {d:Nat} {E:Value→Shared→Prop}
theorem aJ.room (K:aJ B c A d):A.in1.units+60<cLine:=by
 have:=K.un
 show A.units+1+60<cLine
 omega
theorem gC (K:aJ B c A d) (W:aC B c m σ φ nw s) {n:Nat} {t:Tg} {kd:Nat} {l:List (V×V)} {k:V} {u u2:Value} (hg:σ.get n=some (.dict t kd l)) (x2:VR B φ nw (.ref n) u2) (x:VR B φ nw k u) (hk:kk kd k=true) {Q:Bool→Shared→Prop}
  (q:∀t,Q (ae l k).isSome {s with toks:=t}):wpAny (model B.prog B.w) A (contains u2 u) Q E s:=
 W.dictK hg x2 λ a es j hm D hn hφ yy=>by
  have hT:s.TypeIs (.ref a) "dict":=⟨_,W.inN hm,rfl⟩
  unfold contains
  refine Kq (JX (wpAny_specialOf hT slot_dict_contains.lookup ?_))
  show wpAny _ _ (if (some (Value.builtin "dict.__contains__")==some Value.none)=true then _ else _) _ E s
  rw [if_neg (by rw [beq_builtin_none];exact Lv)]
  refine JX (wpAny_callSpecialUnlessNone?_slot (name:=Str.ofString "__contains__") hT slot_dict_contains
   (wpAny_call_entry slot_dict_contains hT entry_dict_contains ?_ (args_dict_contains _ _)))
  show wpAny _ _ (dictGet a u>>=_) _ _ s
  refine JX (jb K W (JV (JW (by decide) _) K.room) hm D hn x hk (λ e t=>?_) λ v uv e y t=>?_)
  ·show wpAny _ _ (Builtin.Dict.pendingKey? a u>>=_) _ _ _
   exact JX (wpAny_pendingKey_other (W.R.nm _ hm) (J7 ⟨_,rfl,wpAny_truthy_bool (show Q (none:Option V).isSome _ from e▸q t)⟩))
  ·show wpAny _ _ (ret (.bool true)) _ _ _
   exact J7 ⟨_,rfl,wpAny_truthy_bool (show Q (some v).isSome _ from e▸q t)⟩
theorem bf.of {Q:Bool→St→Prop} {b:Bool} {s':Shared} (q:Q b σ) (W:aC B c m σ φ nw s'):bf B c m φ nw Q b s':=⟨σ,φ,nw,q,W,.refl _ _⟩
theorem u6 {v1:V} {u1 u2:Value} {Q:Bool→St→Prop} (neg:Bool) (K:aJ B c A d) (W:aC B c m σ φ nw s) {i:Int} (x1:VR B φ nw (.int i) u1) {l:List (Int×Int)} (x2:VR B φ nw (.gdict l) u2) (q:Q (bif neg then !(l.lookup i).isSome else (l.lookup i).isSome) σ):
  wpAny (model B.prog B.w) A (compareOp (if neg then .NotIn else .In) u1 u2) (λ u s'=>∃b,u=.bool b∧bf B c m φ nw Q b s') E s:=by
 refine VR.intK x1 λ t=>VR.gdK x2 λ a o kvs h1 h2 h3 h4 h5=>?_
 have h1:=Heap.dictOf_iff.mpr ⟨_,W.inK K h1,h2⟩
 have e:(valueAt kvs i).isSome=(l.lookup i).isSome:=by
  have h4:=h4 i
  cases hl:l.lookup i with
  |none=>rw [hl] at h4;rw [h4];rfl
  |some j=>rw [hl] at h4;exact h4.elim λ t h4=>by rw [h4];rfl
 rw [←e] at q
 cases neg with
 |false=>exact wpAny_in_of (intKind_is _ _ i t) h5 h1.mapOf ⟨_,rfl,bf.of (q) (W.tok _)⟩
 |true=>exact wpAny_notIn_of (intKind_is _ _ i t) h5 h1.mapOf ⟨_,rfl,bf.of (q) (W.tok _)⟩
theorem sJ {n:Nat} {t:Tg} {l:List V} {v1:V} {u1 u2:Value} {Q:Bool→St→Prop} (neg:Bool) (K:aJ B c A d) (W:aC B c m σ φ nw s) (hg:σ.get n=some (.list t l)) (x1:VR B φ nw v1 u1) (x2:VR B φ nw (.ref n) u2)
  (q:∃d ds,du σ v1 d∧dM σ l ds∧d.depth≤8∧D.depths ds≤8∧∃r:Bool,(r=true↔d∈ds)∧Q (bif neg then !r else r) σ):
  wpAny (model B.prog B.w) A (compareOp (if neg then .NotIn else .In) u1 u2) (λ u s'=>∃b,u=.bool b∧bf B c m φ nw Q b s') E s:=
 W.listK hg x2 λ a vs k hm y yy=>q.elim λ d q=>q.elim λ ds q=>q.2.2.2.2.elim λ r h=>by
  have D:=ku K W q.2.1 y
  have hE:∀y,y∈vs.toArray→EqAt A.in1 s y u1 (vg s.heap d y):=λ y hy=>(KN.mp (List.mem_toArray.mp hy)).elim λ j hj=>(D.get hj).elim λ e he=>by
   have hu:=K.room
   have h1:=cS he.1
   have h2:=q.2.2.1
   have h3:=q.2.2.2.1
   exact uq he.2▸(bm.says he.2 (gd K W q.1 x1) A.in1 (by omega)).eq
  cases neg with
  |false=>exact in_listAt (vg s.heap d) (W.isList hm) hE ⟨_,rfl,bf.of (uI D h.1▸h.2) W⟩
  |true=>exact notIn_listAt (vg s.heap d) (W.isList hm) hE ⟨_,rfl,bf.of (uI D h.1▸h.2) W⟩
theorem AD {v1 v2:V} {u1 u2:Value} {Q:Bool→St→Prop} (neg:Bool) (K:aJ B c A d) (W:aC B c m σ φ nw s) (x1:VR B φ nw v1 u1) (x2:VR B φ nw v2 u2) (q:i6 σ v1 v2 λ r=>Q (bif neg then !r else r) σ):
  wpAny (model B.prog B.w) A (compareOp (if neg then .NotIn else .In) u1 u2) (λ u s'=>∃b,u=.bool b∧bf B c m φ nw Q b s') E s:=by
 unfold i6 at q
 cases v2 with
 |gdict l=>cases v1 with
  |int i=>exact u6 (v1:=.int i) neg K W x1 x2 q
  |_=>exact q.elim
 |ref n=>
  dsimp only at q
  generalize hg:σ.get n=o at q
  cases o with
  |none=>exact q.elim
  |some o=>cases o with
   |list t l=>exact sJ neg K W hg x1 x2 q
   |dict t kd l=>cases neg with
    |false=>exact JX (gC K W hg x2 x1 q.1 λ t=>J7 ⟨_,rfl,bf.of (q.2) (W.tok _)⟩)
    |true=>exact JX (gC K W hg x2 x1 q.1 λ t=>J7 ⟨_,rfl,bf.of (q.2) (W.tok _)⟩)
   |_=>exact q.elim
 |_=>exact q.elim
theorem Hd {v1 v2:V} {u1 u2:Value} {Q:Bool→Prop} (K:aJ B c A d) (W:aC B c m σ φ nw s) (x1:VR B φ nw v1 u1) (x2:VR B φ nw v2 u2) (q:sb σ v1 v2 Q):∃r:Bool,Q r∧RcAt A s u1 u2 r∧RcNeAt A s u1 u2 (!r):=by
 have go:(∃d e,du σ v1 d∧du σ v2 e∧d.depth≤20∧e.depth≤20∧∃r:Bool,(r=true↔d=e)∧Q r)→∃r:Bool,Q r∧RcAt A s u1 u2 r∧RcNeAt A s u1 u2 (!r):=λ q=>
  q.elim λ d q=>q.elim λ e q=>q.2.2.2.2.elim λ r h=>by
   have hu:A.units+1+60<cLine:=K.room
   have h1:=q.2.2.1
   have h2:=q.2.2.2.1
   have S:=bm.says (gd K W q.1 x1) (gd K W q.2.1 x2) A (by omega)
   have e:rp d e=r:=KW.mpr ((iy _ _).trans h.1.symm)
   rw [e] at S
   exact ⟨r,h.2,S.rc,S.ne⟩
 unfold sb at q
 cases v1 with
 |bool x=>cases v2 with
  |bool y=>exact VR.boolK x1 (VR.boolK x2 ⟨_,q,.bool_bool _ _,.bool_bool _ _⟩)
  |_=>exact go q
 |_=>exact go q
theorem t9 {v:V} {u:Value} (x:VR B φ nw v u):(u==.none)=!eJ v:=by
 cases x<;>rfl
theorem AM {op:yJ} {v1 v2:V} {u1 u2:Value} {Q:Bool→St→Prop} (K:aJ B c A d) (W:aC B c m σ φ nw s) (x1:VR B φ nw v1 u1) (x2:VR B φ nw v2 u2) (q:bc op σ v1 v2 λ r=>Q r σ):
  wpAny (model B.prog B.w) A (compareOp (oI op) u1 u2) (λ u s'=>∃b,u=.bool b∧bf B c m φ nw Q b s') E s:=by
 unfold bc at q
 cases op with
 |eq=>exact (Hd (A:=A) K W x1 x2 q).elim λ r h=>h.2.1 _ _ _ _ ⟨_,rfl,bf.of h.1 W⟩
 |ne=>exact (Hd (A:=A) K W x1 x2 q).elim λ r h=>h.2.2 _ _ _ _ ⟨_,rfl,bf.of h.1 W⟩
 |lt=>exact jt x1 x2 q λ x t y t' q=>PyProof.Rows.lt_int ⟨_,rfl,bf.of q W⟩
 |le=>exact jt x1 x2 q λ x t y t' q=>PyProof.Rows.le_int ⟨_,rfl,bf.of q W⟩
 |gt=>exact jt x1 x2 q λ x t y t' q=>PyProof.Rows.gt_int ⟨_,rfl,bf.of q W⟩
 |ge=>exact jt x1 x2 q λ x t y t' q=>PyProof.Rows.ge_int ⟨_,rfl,bf.of q W⟩
 |is=>cases v2 with
  |none=>cases x2;exact is_none_gen (t9 x1▸⟨_,rfl,bf.of q W⟩)
  |_=>exact q.elim
 |isnot=>cases v2 with
  |none=>cases x2;exact isnot_none_gen (by rw [t9 x1,Bool.not_not];exact ⟨_,rfl,bf.of q W⟩)
  |_=>exact q.elim
 |isin=>exact AD false K W x1 x2 q
 |notin=>exact AD true K W x1 x2 q
theorem tU {v:V} {u:Value} {Q:Bool→St→Prop} (W:aC B c m σ φ nw s) (x:VR B φ nw v u) (q:bg v σ λ b=>Q b σ):
  wpAny (model B.prog B.w) A (truthy u) (bf B c m φ nw Q) E s:=by
 unfold bg at q
 cases v with
 |bool b=>cases x;exact wpAny_truthy_bool (bf.of q W)
 |int i=>cases x;exact PyProof.Rows.truthy_int (bf.of ((show decide (i≠0)=(i !=0) from decide_not.trans (congrArg _ rfl))▸q) W)
 |ref n=>
  exact (kN (P:=λ l=>Q (!l.isEmpty) σ) q).elim λ t q=>q.elim λ l q=>W.listK q.1 x λ a vs k hm y yy=>by
   refine wpAny_truthy_list (W.isList hm) (K9 (KP.mpr (W.lenL hm)) (by decide:((aN:Nat):Int)<2 ^ 63)) (bf.of ?_ (W.tok _))
   have e:l.isEmpty=vs.toArray.isEmpty:=by cases y<;>rfl
   exact e▸q.2
 |_=>exact q.elim
end
theorem ib {j n:Nat} (h1:j<n):seqIndex? (j:Nat) n=some j:=by
 unfold seqIndex?
 dsimp only
 rw [if_neg (Int.not_lt.mpr (Int.natCast_nonneg j)),if_pos (Bool.and_eq_true_iff.mpr ⟨decide_eq_true (Int.natCast_nonneg j),decide_eq_true (Int.ofNat_lt.mpr h1)⟩)]
 rfl
theorem uj {n:Nat}:((-1:Int)+(n:Int)).toNat=n - 1:=by omega
theorem lZ {n:Nat} (h:0<n):seqIndex? (-1) n=some (n - 1):=by
 rw [seqIndex_neg (by decide) (by omega),uj]
inductive EJ (l:List V) (v:V):Int→Prop
 |pos (j:Nat):l[j]? =some v→EJ l v (j:Nat)
 |last:l[l.length - 1]? =some v→0<l.length→EJ l v (-1)
theorem uh {l:List V} {k:Int} {v:V} (h:c3 l k=some v):EJ l v k:=by
 unfold c3 at h
 by_cases h0:0≤k
 ·rw [if_pos h0] at h
  exact (K8 h0).elim λ j e=>by subst e;exact .pos j h
 ·rw [if_neg h0] at h
  by_cases h1:k=-1
  ·rw [if_pos h1,List.getLast?_eq_getElem?] at h
   exact h1▸.last h (JV (Kw _) (Ka.mp h).1)
  ·rw [if_neg h1] at h;cases h
theorem vn {n:Nat} (h:n≤aN):(n:Int)<2 ^ 63:=K9 (KP.mpr h) (by decide:((aN:Nat):Int)<2 ^ 63)
theorem AI (n:Nat):-(2 ^ 63)≤(n:Int):=KO (by decide:-(2 ^ 63)≤(0:Int)) (Kp n)
theorem lP {α:Type} {l:List α} {j:Nat} {v:α} (h:l[j]? =some v):j<l.length:=(Ka.mp h).1
theorem sC {o:Option V} {P:V→Prop} (q:match o with|some v=>P v|none=>False):∃v,o=some v∧P v:=by
 cases o with
 |none=>exact q.elim
 |some v=>exact ⟨v,rfl,q⟩
theorem Ii {o:Option String} {P:String→Prop} (q:match o with|some v=>P v|none=>False):∃v,o=some v∧P v:=by
 cases o with
 |none=>exact q.elim
 |some v=>exact ⟨v,rfl,q⟩
theorem wr {s c:String} {j:Nat} (h:dS s j=some c):∃ch:Char,(seqIndex? (j:Nat) (Str.ofString s).length).bind ((Str.ofString s).cps[·]?)=some ch.toNat∧(⟨#[ch.toNat]⟩:Str)=Str.ofString c:=
 (Option.map_eq_some_iff.mp h).elim λ ch e=>⟨ch,by
  rw [bL,ib (by rw [←String.length_toList];exact lP e.1),Option.bind_some,Str.ofString_eq_toList]
  show ((s.toList.map Char.toNat).toArray)[j]? =_
  rw [List.getElem?_toArray,List.getElem?_map,e.1];rfl,by rw [←e.2,Str.ofString_eq_toList,String.toList_ofList];rfl⟩
section
variable {B:Bx} {c:Cx} {m:Str→Option Value} {σ:St} {φ:bh} {nw:ad} {s:Shared} {A:Around} {d:Nat} {E:Value→Shared→Prop}
noncomputable def yx (B:Bx) (c:Cx) (m:Str→Option Value) (φ:bh) (nw:ad) (A:Around) (E:Value→Shared→Prop) (Q:V→St→Prop) (s:Shared) (u1 u2:Value):Prop:=
 (∃T id,s.TypeIs u1 T∧typeLookup (.type T) "__getitem__"=pure (some (.builtin id)))∧wpAny (model B.prog B.w) A (getItem u1 u2) (aq B c m φ nw Q) E s
theorem y6 {l:List V} {k:Int} {v:V} {u1 u2:Value} {Q:V→St→Prop} (K:aJ B c A d) (W:aC B c m σ φ nw s) (x1:VR B φ nw (.tup l) u1) (x2:VR B φ nw (.int k) u2) (hv:c3 l k=some v) (q:Q v σ):yx B c m φ nw A E Q s u1 u2:=
 W.tupK K x1 λ a vs h1 r1 hl yy=>by
  refine VR.intK x2 λ yy=>?_
  refine ⟨⟨"tuple",_,IsTuple.typeIs h1,slot_tuple_getitem.lookup⟩,?_⟩
  have e:vs.toArray.size=l.length:=r1.length.symm
  cases uh hv with
  |pos j h=>exact (r1.get h).elim λ u g=>PyProof.Rows.getItem_tuple h1 (AI j) (vn (JT (Kb (lP h)) hl)) (by rw [e];exact ib (lP h)) (by rw [List.getElem?_toArray];exact g.1) (aq.of q g.2 W)
  |last h h0=>exact (r1.get h).elim λ u g=>PyProof.Rows.getItem_tuple h1 (by decide) (by decide) (j:=l.length - 1) ((congrArg _ e).trans (lZ h0)) (by rw [List.getElem?_toArray];exact g.1) (aq.of q g.2 W)
theorem wo {n:Nat} {t:Tg} {l:List V} {k:Int} {v:V} {u1 u2:Value} {Q:V→St→Prop} (W:aC B c m σ φ nw s) (hg:σ.get n=some (.list t l)) (x1:VR B φ nw (.ref n) u1) (x2:VR B φ nw (.int k) u2) (hv:c3 l k=some v) (q:Q v σ):yx B c m φ nw A E Q s u1 u2:=
 W.listK hg x1 λ a vs kk hm r1 yy=>by
  refine VR.intK x2 λ yy=>?_
  refine ⟨⟨"list",_,(W.isList hm).typeIs,slot_list_getitem.lookup⟩,?_⟩
  have e:=r1.length
  have hl:l.length≤aN:=e▸W.lenL hm
  cases uh hv with
  |pos j h=>exact (r1.get h).elim λ u g=>wpAny_getItem_list (W.isList hm) (Kp j) (vn (JT (Kb (lP h)) hl)) (by rw [List.getElem?_toArray];exact g.1) (aq.of q g.2 W)
  |last h h0=>exact (r1.get h).elim λ u g=>wpAny_getItem_list_neg (W.isList hm) (by decide) (by rw [List.size_toArray,←e];omega) (by decide) (by rw [List.size_toArray,←e,List.getElem?_toArray,uj];exact g.1) (aq.of q g.2 W)
theorem wp {n:Nat} {t:Tg} {kd:Nat} {l:List (V×V)} {k v:V} {u1 u2:Value} {Q:V→St→Prop} (K:aJ B c A d) (W:aC B c m σ φ nw s) (hg:σ.get n=some (.dict t kd l)) (x1:VR B φ nw (.ref n) u1) (x2:VR B φ nw k u2) (hk:kk kd k=true) (hv:ae l k=some v) (q:Q v σ):yx B c m φ nw A E Q s u1 u2:=
 W.dictK hg x1 λ a es j hm D hn yy yy=>by
  have hT:s.TypeIs (.ref a) "dict":=⟨_,W.inN hm,rfl⟩
  refine ⟨⟨"dict",_,hT,slot_dict_getitem.lookup⟩,?_⟩
  unfold getItem
  refine Kq (JX (wpAny_sequenceKey hT (by decide) ?_))
  refine JX (wpAny_callSpecial?_slot (name:=Str.ofString "__getitem__") hT slot_dict_getitem
   (wpAny_call_entry slot_dict_getitem hT entry_dict_getitem ?_ (args_dict_getitem _ _)))
  show wpAny _ _ (dictGet a u2>>=_) _ _ s
  exact JX (jb K W (JV (JW (by decide) _) K.room) hm D hn x2 hk (λ e t=>by cases hv.symm.trans e) λ v' uv e y t=>J7 ⟨uv,rfl,J7 (aq.of (J4 (hv.symm.trans e)▸q) y (W.tok _))⟩)
theorem y9 {x:String} {k:Int} {u1 u2:Value} {Q:V→St→Prop} (W:aC B c m σ φ nw s) (x1:VR B φ nw (.str x) u1) (x2:VR B φ nw (.int k) u2) (q:0≤k∧k<1000∧(match dS x k.toNat with|some c=>Q (.str c) σ|none=>False)):yx B c m φ nw A E Q s u1 u2:=by
 refine VR.strK x1 λ yy=>VR.intK x2 λ yy=>?_
 refine ⟨⟨"str",_,typeIs_str s _ _,F.slot_str_getitem.lookup⟩,?_⟩
 obtain ⟨h0,h1,q⟩:=q
 obtain ⟨j,rfl⟩:=K8 h0
 exact (Ii (P:=λ c=>Q (.str c) σ) q).elim λ cx q=>(wr q.1).elim λ ch e=>
  P.getItem_str (c:=ch.toNat) (Lr.mpr ⟨K3 (Int.not_lt.mpr (AI j)),K3 (Int.not_le.mpr (Int.lt_of_lt_of_le h1 (by decide)))⟩) e.1 (e.2▸aq.of q.2 (.str _ _) (W.tok _))
theorem FH {v1 v2:V} {u1 u2:Value} {Q:V→St→Prop} (K:aJ B c A d) (W:aC B c m σ φ nw s) (x1:VR B φ nw v1 u1) (x2:VR B φ nw v2 u2) (q:fb v1 v2 σ Q):
  yx B c m φ nw A E Q s u1 u2:=by
 unfold fb at q
 cases v1 with
 |tup l=>cases v2 with
  |int k=>exact (sC (P:=λ v=>Q v σ) q).elim λ v h=>y6 K W x1 x2 h.1 h.2
  |_=>exact q.elim
 |str x=>cases v2 with
  |int k=>exact y9 W x1 x2 q
  |_=>exact q.elim
 |ref n=>
  dsimp only at q
  generalize hg:σ.get n=o at q
  cases o with
  |none=>exact q.elim
  |some o=>cases o with
   |list t l=>cases v2 with
    |int k=>exact (sC (P:=λ v=>Q v σ) q).elim λ v h=>wo W hg x1 x2 h.1 h.2
    |_=>exact q.elim
   |dict t kd l=>exact (sC (P:=λ v=>Q v σ) q.2).elim λ v h=>wp K W hg x1 x2 q.1 h.1 h.2
   |_=>exact q.elim
 |_=>exact q.elim
end
noncomputable def cf:List String:=["rows","index","depths","weights","opens","tid","name","sort","flags","base","ifaces","params","variances","bounds","fields","methods","asm","cctor","under","impls","props","events","finaliser","home",
 "fid","owner","kind","access","value","mid","ngen","gnames","gbounds","ret","pnames","pflags","body","native","locals_","maxstack","code","clauses","kt","types","fields_","names","asms","entry","store","places","known"]
structure A0 (K:Frag) (c:String) (C:Addr):Prop where
 get:plainGet K C Str.empty=true
 hd:hasDictIn K C=true
 over:plainOver K C=true
 set:findIn K (.ref C) "__setattr__"=some (some (.builtin "object.__setattr__"))
 makes:makesIn K C=true
 kp:keepIn K (.ref C)=true
 names:∀n∈cf,cT c n=true→findIn K (.ref C) (Str.ofString n)=some none
structure BxOk (B:Bx):Prop where
 cls:∀c C,c∈cI→jw B.K c=some C→A0 B.K c C
section
variable {B:Bx} {φ:bh} {nw:ad}
theorem dH (a b:String) (t:Tok):(Value.str (Str.ofString a) t).isStr (Str.ofString b)=decide (a=b):=(ig a b).trans (KW.mpr (Kk.trans decide_eq_true_iff.symm))
theorem AR.length {l:List (String×V)} {es:List DictEntry} (h:AR B φ nw l es):l.length=es.length:=by
 induction h with
 |nil=>rfl
 |cons _ _ ih=>exact congrArg (· +1) ih
inductive Jb (B:Bx) (φ:bh) (nw:ad) (l:List (String×V)) (es:List DictEntry) (n:String):Prop
 |no:cu l n=none→getL (Str.ofString n) es=some none→Jb B φ nw l es n
 |at_ (v:V) (u:Value):cu l n=some v→getL (Str.ofString n) es=some (some u)→VR B φ nw v u→Jb B φ nw l es n
theorem oD {n:String} {h:Int} {t:Tok} {u:Value} {es:List DictEntry}:getL (Str.ofString n) (⟨h,.str (Str.ofString n) t,u⟩::es)=some (some u):=by
 unfold getL
 rw [List.find?_cons_of_pos (by dsimp only;rw [dH];exact KZ rfl)]
theorem iu {s n:String} (e:s≠n) {h:Int} {t:Tok} {u:Value} {es:List DictEntry}:getL (Str.ofString n) (⟨h,.str (Str.ofString s) t,u⟩::es)=getL (Str.ofString n) es:=by
 unfold getL
 rw [List.find?_cons_of_neg (by dsimp only;rw [dH];exact of_decide_eq_false (K3 (by rw [decide_eq_true_iff];exact e)))]
 rfl
theorem AR.at_ {l:List (String×V)} {es:List DictEntry} (h:AR B φ nw l es) (n:String):Jb B φ nw l es n:=by
 induction h with
 |nil=>exact .no rfl rfl
 |@cons s v hh t uv l es a r ih=>
  by_cases e:s=n
  ·subst e
   exact .at_ v uv (if_pos rfl) oD a
  ·cases ih with
   |no h1 h2=>exact .no ((if_neg e).trans h1) ((iu e).trans h2)
   |at_ v' u h1 h2 h3=>exact .at_ v' u ((if_neg e).trans h1) ((iu e).trans h2) h3
theorem AR.has {l:List (String×V)} {es:List DictEntry} (h:AR B φ nw l es) {n:String} {v:V} (hv:cu l n=some v):∃u,getL (Str.ofString n) es=some (some u)∧VR B φ nw v u:=by
 cases h.at_ n with
 |no h1 _=>cases hv.symm.trans h1
 |at_ v' u h1 h2 h3=>exact ⟨u,h2,J4 (h1.symm.trans hv)▸h3⟩
theorem AR.here {l:List (String×V)} {es:List DictEntry} (h:AR B φ nw l es) (n:String):(getL (Str.ofString n) es).isSome=true:=by
 cases h.at_ n with
 |no _ h2=>rw [h2];rfl
 |at_ _ _ _ h2 _=>rw [h2];rfl
theorem AR.put {l:List (String×V)} {es:List DictEntry} (h:AR B φ nw l es) (n:String) {v:V} {u:Value} (x:VR B φ nw v u) (hh:Int) (t:Tok):AR B φ nw (pi l n v) (putL (Str.ofString n) hh (.str (Str.ofString n) t) u es):=by
 induction h with
 |nil=>exact .cons x .nil
 |@cons s v' hh' t' uv l es a r ih=>
  unfold pi putL
  dsimp only
  rw [dH]
  by_cases e:s=n
  ·rw [if_pos e,decide_eq_true e,if_pos rfl];exact .cons x r
  ·rw [if_neg e,decide_eq_false e,if_neg Bool.false_ne_true];exact .cons a ih
theorem rW (n:String) (v:V):∀l:List (String×V),(pi l n v).length≤l.length+1
 |[]=>Kd _
 |(a,b)::l=>by
  unfold pi
  by_cases e:a=n
  ·rw [if_pos e];exact Kt _
  ·rw [if_neg e];exact Kj (rW n v l)
theorem AR.setN {l:List (String×V)} {es:List DictEntry} (D:AR B φ nw l es) (nn:(nw.map (·.1)).Nodup) {a:Addr} {o:Obj} (h:(a,o)∈nw) (hne:∀vs n,o≠am vs n) (o':Obj):AR B φ (Mine.setN nw a o') l es:=
 D.mono' (J1 _) λ yy yy yy hx=>au hx λ e=>by subst e;exact hne _ _ (aM nn h hx)
theorem VR.handed {v:V} {u:Value} (x:VR B φ nw v u):handedIn u=true:=by cases x<;>rfl
end
theorem xL {σ:St} {v:V} {P:Nat→Tg→String→List (String×V)→Prop} (q:match v with
  | .ref r=>(match σ.get r with
   |some (.inst t c as)=>P r t c as
   |_=>False)
  |_=>False):∃r t c as,v=.ref r∧σ.get r=some (.inst t c as)∧P r t c as:=by
 cases v with
 |ref r=>
  dsimp only at q
  generalize hg:σ.get r=o at q
  cases o with
  |none=>exact q.elim
  |some o=>cases o with
   |inst t c as=>exact ⟨r,t,c,as,rfl,hg,q⟩
   |_=>exact q.elim
 |_=>exact q.elim
section
variable {B:Bx} {c:Cx} {m:Str→Option Value} {σ:St} {φ:bh} {nw:ad} {s:Shared} {A:Around} {d:Nat} {E:Value→Shared→Prop}
theorem ED {v:V} {u:Value} {n:String} {Q:V→St→Prop} (BB:BxOk B) (K:aJ B c A d) (W:aC B c m σ φ nw s) (hn:n∈cf) (x:VR B φ nw v u) (q:nN v n σ Q):
  wpAny (model B.prog B.w) A (getAttr u (Str.ofString n) true) (aq B c m φ nw Q) E s:=by
 unfold nN at q
 refine (xL (P:=λ r t c as=>cT c n=true∧(match cu as n with|some v=>Q v σ|none=>False)) q).elim λ r q=>q.elim λ t q=>q.elim λ cn q=>q.elim λ as q=>?_
 have x:=q.1▸x
 exact (sC (P:=λ v=>Q v σ) q.2.2.2).elim λ v p=>W.instK q.2.1 x λ a dx C es k h1 h2 h3 h4 h5 h6 h7=>
  (h5.has p.1).elim λ uv e=>have O:=BB.cls _ _ h1 h2
  get_own W.F K.X (InstAt.of_news W.N h3 h4) O.get O.hd (O.names n hn q.2.2.1) (attr:=none) rfl e.1 e.2.handed (aq.of p.2 e.2 (W.tok _))
theorem Bp {a dx:Addr} {C:Addr} {es:List DictEntry} {k:Nat} (nn:(nw.map (·.1)).Nodup) (h3:(a,instObj C dx)∈nw) (h4:(dx,dictOf es k)∈nw):a≠dx:=λ e=>by
 subst e
 cases congrArg Obj.cls (aM nn h3 h4)
theorem u7 {es:List DictEntry} {n:Nat}:mc (dictOf es n)≤aN:=Kw _
theorem uW {o v:V} {uo u:Value} {n:String} {Q:St→Prop} (BB:BxOk B) (K:aJ B c A d) (W:aC B c m σ φ nw s) (hn:n∈cf) (xo:VR B φ nw o uo) (x:VR B φ nw v u) (q:fh o n v σ Q):
  wpAny (model B.prog B.w) A (setAttr uo (Str.ofString n) u) (rY B c m φ nw Q) E s:=by
 unfold fh at q
 refine (xL (P:=λ r t c as=>cT c n=true∧as.length≤90∧Q (σ.put r (.inst t c (pi as n v)))) q).elim λ r q=>q.elim λ t q=>q.elim λ cn q=>q.elim λ as q=>?_
 have x0:=q.1▸xo
 exact W.instK q.2.1 x0 λ a dx C es k h1 h2 h3 h4 h5 h6 h7=>by
  have O:=BB.cls _ _ h1 h2
  have D':=h5.put n x (PyData.keyHash B.w.params (Str.ofString n)) (s.toks+1)
  have hle:(putL (Str.ofString n) (PyData.keyHash B.w.params (Str.ofString n)) (.str (Str.ofString n) (s.toks+1)) u es).length≤91:=D'.length▸JT (rW n v as) (Kj q.2.2.2.1)
  refine set_dict W.F K.X W.N (InstAt.of_news W.N h3 h4) rfl O.set O.over (by unfold takerIn;rw [O.names n hn q.2.2.1];rfl) O.hd (h5.here n) rfl (vY W.R.nn h4 _) (JT hle (by decide)) λ h' F' N'=>?_
  have hp:=bw es k
  exact ⟨_,φ,_,q.2.2.2.2,⟨F',N',W.R.put h7 (.inr rfl) h4 u7 hp (.inst h1 h2 (au h3 (Bp W.R.nn h3 h4)) (bt h4) (D'.setN W.R.nn h4 hp _) (D'.length▸JT hle (by decide))),W.g,W.o⟩,bI.put (oH h7)⟩
theorem BN {r:Nat} {t:Tg} {kd:Nat} {l:List (V×V)} {k v:V} {uo uk u:Value} {Q:St→Prop} (K:aJ B c A d) (W:aC B c m σ φ nw s) (hg:σ.get r=some (.dict t kd l)) (xo:VR B φ nw (.ref r) uo) (xk:VR B φ nw k uk) (x:VR B φ nw v u) (hk:kk kd k=true) (hl:l.length<aN) (q:Q (σ.put r (.dict t kd (bz l k v)))):
  wpAny (model B.prog B.w) A (setItem uo uk u) (rY B c m φ nw Q) E s:=
 W.dictK hg xo λ a es j hm D hn hφ yy=>by
  have hT:s.TypeIs (.ref a) "dict":=⟨_,W.inN hm,rfl⟩
  unfold setItem
  refine Kq (JX (wpAny_sequenceKey hT (by decide) ?_))
  refine JX (wpAny_callSpecial?_slot (name:=Str.ofString "__setitem__") hT slot_dict_setitem
   (wpAny_call_entry slot_dict_setitem hT entry_dict_setitem ?_ (args_dict_setitem _ _ _)))
  show wpAny _ _ (Builtin.Dict.notOrdered "__setitem__" ⟨[.ref a,uk,u],[]⟩>>=_) _ _ s
  refine JX (wpAny_notOrdered_dict hT ?_)
  show wpAny _ _ (dictSet a uk u>>=_) _ _ s
  exact JX (nz K W (JV (JW (by decide) _) K.room) hm D hn xk hk x hl λ es' n' D' hn' hz' h' t' hs ho'=>J7 ⟨.none,rfl,J7
   ⟨_,φ,_,q,W.put hφ (.inl rfl) hm u7 (bw _ _) (.dict (bt hm) D' hn' (D'.length▸hz')) hs ho' t',bI.put (eW hφ)⟩⟩)
theorem aC.putL (W:aC B c m σ φ nw s) {n:Nat} {t:Tg} {l:List V} {a:Addr} {vs vs':List Value} {k n':Nat} (hφ:φ[n]? =some (a,none)) (hm:(a,listOf vs.toArray k)∈nw) (y:bC B φ nw l vs') (hl:vs'.length≤aN) {h':Heap} (hs:Heap.SameBut a s.heap h') (ho':h'.get? a=some (listOf vs'.toArray n')):
  aC B c m (σ.put n (.list t l)) φ (setN nw a (listOf vs'.toArray n')) {s with heap:=h'}:=
 W.put hφ (.inl rfl) hm (show mc (listOf vs'.toArray n')≤aN from hl) (dY _ _) (.list (bt hm) (y.setN W.R.nn hm (dY _ _) _)) hs ho' s.toks
theorem BM {r:Nat} {t:Tg} {l:List V} {i:Int} {v:V} {uo uk u:Value} {Q:St→Prop} (W:aC B c m σ φ nw s) (hg:σ.get r=some (.list t l)) (xo:VR B φ nw (.ref r) uo) (xk:VR B φ nw (.int i) uk) (x:VR B φ nw v u) (h0:0≤i) (h1:i<l.length) (q:Q (σ.put r (.list t (l.set i.toNat v)))):
  wpAny (model B.prog B.w) A (setItem uo uk u) (rY B c m φ nw Q) E s:=
 W.listK hg xo λ a vs k hm y hφ=>by
  refine VR.intK xk λ yy=>?_
  have ho:=W.inN hm
  have hl:=W.lenL hm
  unfold setItem
  refine Kq (JX (wpAny_sequenceKey (W.isList hm).typeIs (by decide) ?_))
  refine JX (wpAny_callSpecial?_slot (name:=Str.ofString "__setitem__") (W.isList hm).typeIs slot_list_setitem
   (wpAny_call_entry slot_list_setitem (W.isList hm).typeIs entry_list_setitem ?_ (args_list_setitem _ _ _)))
  show wpAny _ _ (Builtin.List.listSubscript? (.int i _)>>=_) _ _ s
  refine JX (wpAny_listSubscript_int (fitsIndex_of h0 (Int.lt_trans h1 (vn (y.length.symm▸hl)))) ?_)
  obtain ⟨j,rfl⟩:=K8 h0
  have hj:j<vs.toArray.size:=KX (Lm.mp h1) y.length
  show wpAny _ _ ((seqItemAt a j>>=λ r=>pure (r.map (j,·)))>>=_) _ _ s
  refine JX (JX (wpAny_seqItemAt ho rfl (J7 ?_)))
  rw [Array.getElem?_eq_getElem hj]
  show wpAny _ _ (setSeqItemAt a j u>>=_) _ _ s
  refine JX (wpAny_setSeqItemAt ho rfl (JX (J7 (J7 ⟨.none,rfl,J7 ?_⟩))))
  exact ⟨_,φ,_,q,W.putL hφ hm (y.set j x) (JT (J3 List.length_set) hl) (Heap.SameBut.update ..) (by rw [Heap.get?_update_self (f:=Obj.mapSeq (·.setIfInBounds j u)) ho rfl];simp [Obj.mapSeq];rfl),bI.put (eW hφ)⟩
theorem uV {o k v:V} {uo uk u:Value} {Q:St→Prop} (K:aJ B c A d) (W:aC B c m σ φ nw s) (xo:VR B φ nw o uo) (xk:VR B φ nw k uk) (x:VR B φ nw v u) (q:cW o k v σ Q):
  wpAny (model B.prog B.w) A (setItem uo uk u) (rY B c m φ nw Q) E s:=by
 unfold cW at q
 cases o with
 |ref r=>
  dsimp only at q
  generalize hg:σ.get r=o at q
  cases o with
  |none=>exact q.elim
  |some o=>cases o with
   |dict t kd l=>exact BN K W hg xo xk x q.1 q.2.1 q.2.2
   |list t l=>cases k with
    |int i=>exact BM W hg xo xk x q.1 q.2.1 q.2.2
    |_=>exact q.elim
   |_=>exact q.elim
 |_=>exact q.elim
end
section
variable {B:Bx} {c:Cx} {m:Str→Option Value} {σ:St} {φ:bh} {nw:ad} {s:Shared} {A:Around} {d:Nat} {E:Value→Shared→Prop}
theorem rd (prog:Program) (w:World) (a:Addr) (es:List DictEntry) (n:Nat) (hd:(a==sysModules)=false):
  MeetsIn prog w (Builtin.«dict.__len__» ⟨[.ref a],[]⟩) (λ yy R s=>s.heap.get? a=some (dictOf es n)∧R (.ok (.ret (.int es.length s.toks))) {s with toks:=s.toks+1}):=
 .of_wp λ A R s ⟨ho,h⟩=>by
  show wpAny _ _ (dictSize a>>=_) _ _ s
  unfold dictSize
  refine JX (JX (wpAny_dictEntries ho rfl (J7 ?_)))
  show wpAny _ _ (Builtin.Dict.pendingCount a>>=_) _ _ s
  refine JX (wpAny_pendingCount_other hd ?_)
  refine wpAny_ret_mkInt ?_
  exact h
theorem u8 {a:Addr} {es:List DictEntry} {n:Nat} {Q:Value→Shared→Prop} (ho:s.heap.get? a=some (dictOf es n)) (hd:(a==sysModules)=false) (hfit:(es.length:Int)<2 ^ 63)
  (h:Q (.int es.length (s.toks+1)) {s with toks:=s.toks+1+1}):wpAny (model B.prog B.w) A (call (.builtin "len") [.ref a]) Q E s:=by
 have hT:s.TypeIs (.ref a) "dict":=⟨_,ho,rfl⟩
 refine Calls.call_function_entry kind_len plain_len entry_len (args_len1 _) ?_
 unfold Builtin.«len»
 refine JX (m:=oneArg "len" _) (J7 ?_)
 refine JX (m:=callSpecial? (.ref a) (Str.ofString "__len__")) (wpAny_callSpecial?_slot (name:=Str.ofString "__len__") hT F.slot_dict_len
  (call_meetsIn F.slot_dict_len hT F.entry_dict_len (F.args_dict_len_1 _) (rd _ _ a es n hd) ⟨ho,?_⟩))
 show wpAny _ _ _ _ _ {s with toks:=s.toks+1}
 refine JX (Kq (J7 ?_))
 refine JX (wpAny_letGo ?_)
 show wpAny _ _ (if ((es.length:Nat):Int)<0 then _ else _) _ _ _
 rw [if_neg (Int.not_lt.mpr (Int.natCast_nonneg _))]
 show wpAny _ _ (if ((es.length:Nat):Int)≥2 ^ 63 then _ else _) _ _ _
 rw [if_neg (Int.not_le.mpr hfit)]
 exact JX (wpAny_mkInt (J7 ⟨_,rfl,h⟩))
theorem GM {v:V} {u:Value} {Q:V→St→Prop} (K:aJ B c A d) (W:aC B c m σ φ nw s) (x:VR B φ nw v u) (q:kP v σ Q):
  wpAny (model B.prog B.w) A (call (.builtin "len") [u]) (aq B c m φ nw Q) E s:=by
 unfold kP at q
 cases v with
 |tup l=>exact W.tupK K x λ a vs h1 r1 hl yy=>PyProof.Rows.len_tuple h1 (vn (JT (J3 r1.length.symm) hl)) (aq.of (show Q (.int (vs.length:Nat)) σ from r1.length▸q) (.int _ _) (W.tok _))
 |ref n=>
  dsimp only at q
  generalize hg:σ.get n=o at q
  cases o with
  |none=>exact q.elim
  |some o=>cases o with
   |list t l=>exact W.listK hg x λ a vs k hm y yy=>PyProof.Rows.len_list (W.isList hm) (vn (W.lenL hm)) (aq.of (show Q (.int (vs.length:Nat)) σ from y.length▸q) (.int _ _) (W.tok _))
   |dict t kd l=>exact W.dictK hg x λ a es j hm D yy yy hz=>u8 (W.inN hm) (W.R.nm _ hm) (vn (D.length▸hz)) (aq.of (show Q (.int (es.length:Nat)) σ from D.length▸q) (.int _ _) (W.tok _))
   |_=>exact q.elim
 |_=>exact q.elim
theorem Co {σ:St} {v:V} {P:Nat→Tg→List V→Prop} (q:match v with
  | .ref n=>(match σ.get n with
   |some (.list t l)=>P n t l
   |_=>False)
  |_=>False):∃n t l,v=.ref n∧σ.get n=some (.list t l)∧P n t l:=by
 cases v with
 |ref n=>
  dsimp only at q
  generalize hg:σ.get n=o at q
  cases o with
  |none=>exact q.elim
  |some o=>cases o with
   |list t l=>exact ⟨n,t,l,rfl,hg,q⟩
   |_=>exact q.elim
 |_=>exact q.elim
@[elab_as_elim] theorem om (W:aC B c m σ φ nw s) {v:V} {u:Value} {P:Nat→Tg→List V→Prop} (q:match v with
  | .ref n=>(match σ.get n with
   |some (.list t l)=>P n t l
   |_=>False)
  |_=>False) (x:VR B φ nw v u) {R:Value→Prop} (k:∀n t l a vs j,P n t l→σ.get n=some (.list t l)→(a,listOf vs.toArray j)∈nw→bC B φ nw l vs→φ[n]? =some (a,none)→R (.ref a)):R u:=
 (Co q).elim λ n q=>q.elim λ t q=>q.elim λ l q=>by
  have x:VR B φ nw (.ref n) u:=q.1▸x
  exact W.listK q.2.1 x λ a vs j hm y hφ=>k n t l a vs j q.2.2 q.2.1 hm y hφ
theorem yU {v:V} {u:Value} {Q:V→St→Prop} (K:aJ B c A d) (W:aC B c m σ φ nw s) (x:VR B φ nw v u) (q:eD v σ Q):
  wpAny (model B.prog B.w) A (call (.type "tuple") [u]) (aq B c m φ nw Q) E s:=by
 unfold eD at q
 cases v with
 |tup l=>exact W.tupK K x λ a vs h1 r1 hl x=>call_tuple_same h1 (aq.of q x W)
 |ref n=>
  exact (kN (P:=λ l=>Q (.tup l) σ) q).elim λ t q=>q.elim λ l q=>W.listK q.1 x λ a vs k hm y yy=>
   call_tuple_list (W.isList hm) (λ h' hk=>⟨_,σ,φ,_,q.2,.tup (n:=0) (.head _) (y.mono W.R bI.extra),(W.keep hk s.toks).alloc K (am vs 0) (n5 (W.lenL hm)),bI.extra⟩) (cC (W.lenL hm))
 |_=>exact q.elim
theorem FK {v:V} {u:Value} {Q:V→St→Prop} (W:aC B c m σ φ nw s) (x:VR B φ nw v u) (q:uQ v σ Q):
  wpAny (model B.prog B.w) A (call (.type "str") [u]) (aq B c m φ nw Q) E s:=by
 unfold uQ at q
 cases v with
 |int i=>
  refine VR.intK x λ yy=>?_
  refine P.str_of_int ?_ (aq.of q.2.2 (.str _ _) (W.tok _))
  have h:i.natAbs<10:=by have h0:=q.1;have h1:=q.2.1;omega
  exact (show ∀n<10,Nat.log2 n<1920 from by decide) _ h
 |_=>exact q.elim
theorem yv {o v:V} {uo u:Value} {Q:V→St→Prop} (W:aC B c m σ φ nw s) (xo:VR B φ nw o uo) (x:VR B φ nw v u) (q:nq o v σ Q):
  wpAny (model B.prog B.w) A (call (.builtin "list.append") [uo,u]) (aq B c m φ nw Q) E s:=by
 unfold nq at q
 exact om (P:=λ n t l=>l.length<aN∧Q .none (σ.put n (.list t (l++[v])))) W q xo λ n t l a vs k q hg hm y hφ=>
  append_at (W.inN hm) (λ h' hs ho'=>⟨_,_,φ,_,q.2,.none,W.putL hφ hm (y.append (.cons x .nil)) (re (y.length▸q.1)) hs (List.push_toArray .. ▸ho'),bI.put (eW hφ)⟩) (cC (W.lenL hm))
theorem sW {α:Type} (vs:List α) (h:0<vs.length):vs.toArray.eraseIdxIfInBounds (vs.toArray.size - 1)=vs.dropLast.toArray:=by
 rw [Array.eraseIdxIfInBounds,dif_pos (show vs.toArray.size - 1<vs.toArray.size from Nat.sub_lt h Nat.one_pos),List.eraseIdx_toArray,List.size_toArray,List.eraseIdx_length_sub_one]
theorem Gd {o:V} {uo:Value} {Q:V→St→Prop} (W:aC B c m σ φ nw s) (xo:VR B φ nw o uo) (q:nc o σ Q):
  wpAny (model B.prog B.w) A (call (.builtin "list.pop") [uo]) (aq B c m φ nw Q) E s:=by
 unfold nc at q
 exact om (P:=λ n t l=>(match l.getLast? with|some v=>Q v (σ.put n (.list t l.dropLast))|none=>False)) W q xo λ n t l a vs k q hg hm y hφ=>
  (sC (P:=λ v=>Q v (σ.put n (.list t l.dropLast))) q).elim λ v q=>by
   have hv:=q.1
   rw [List.getLast?_eq_getElem?] at hv
   refine (y.get hv).elim λ u g=>?_
   have e:=y.length
   refine call_meets PySem.F.slot_list_pop ⟨_,W.inN hm,rfl⟩ PySem.F.entry_list_pop (PySem.F.args_list_pop_1 _) (MeetsSeq.list_pop_last a vs.toArray k u ?_ (cC (W.lenL hm))) ⟨W.inN hm,?_⟩
   ·rw [List.size_toArray,←e,List.getElem?_toArray];exact g.1
   ·have y2:bC B φ nw l.dropLast vs.dropLast:=by
     rw [List.dropLast_eq_take,List.dropLast_eq_take,←e]
     exact y.take _
    exact ⟨v,_,φ,_,q.2,g.2.setN W.R.nn hm (dY _ _) _,W.putL hφ hm y2 (JT (J3 List.length_dropLast) (JT (Nat.sub_le _ _) (W.lenL hm))) (Heap.SameBut.update ..) (by rw [Heap.get?_update_self (f:=Obj.mapSeq λ xs=>xs.eraseIdxIfInBounds (vs.toArray.size - 1)) (W.inN hm) rfl,←sW vs (Nat.lt_of_le_of_lt (Nat.zero_le _) (lP g.1))];rfl),bI.put (eW hφ)⟩
end
section
variable {B:Bx} {c:Cx} {m:Str→Option Value} {σ:St} {φ:bh} {nw:ad} {s:Shared} {A:Around} {d:Nat} {E:Value→Shared→Prop}
theorem aJ.room40 (K:aJ B c A d):A.in1.units+40<cLine:=JV (JW (by decide) _) K.room
theorem zM {o v:V} {uo u:Value} {Q:V→St→Prop} (K:aJ B c A d) (W:aC B c m σ φ nw s) (xo:VR B φ nw o uo) (x:VR B φ nw v u) (q:gi o v σ Q):
  wpAny (model B.prog B.w) A (call (.builtin "list.index") [uo,u]) (aq B c m φ nw Q) E s:=by
 unfold gi at q
 refine om (P:=λ n t l=>∃d ds i,du σ v d∧dM σ l ds∧d.depth≤8∧D.depths ds≤8∧AL ds d (some i)∧Q (.int (i:Nat)) σ) W q xo λ n t l a vs k q hg hm y hφ=>
  q.elim λ dd q=>q.elim λ ds q=>q.elim λ i q=>?_
 have D:=ku K W q.2.1 y
 have h5:=q.2.2.2.2.1
 have li:=D.1▸lP h5.1
 have hE:∀y,y∈vs.toArray→EqAt A.in1 s y u (vg s.heap dd y):=λ y hy=>(KN.mp (List.mem_toArray.mp hy)).elim λ j hj=>(D.get hj).elim λ e he=>by
  have hu:=K.room
  have h1:=cS he.1
  have h2:=q.2.2.1
  have h3:=q.2.2.2.1
  exact uq he.2▸(bm.says he.2 (gd K W q.1 x) A.in1 (by omega)).eq
 refine call_meets PySem.F.slot_list_index ⟨_,W.inN hm,rfl⟩ PySem.F.entry_list_index (PySem.F.args_list_index_2 _ _)
  (list_indexAt a vs.toArray k none #[] u (vg s.heap dd) i li (K9 (KP.mpr (JT (Kb li) (W.lenL hm))) (by decide:((aN:Nat):Int)<2 ^ 63 - 1)) ?_ λ j hj hlt=>?_) ⟨W.inN hm,hE,aq.of q.2.2.2.2.2 (.int _ _) (W.tok _)⟩
 ·exact j8.mpr (D.2 i _ dd (JZ li) h5.1)
 ·exact Bool.eq_false_iff.mpr λ z=>(D.get (JZ (show j<vs.length from hj))).elim λ e he=>h5.2 j hlt (he.2.det (j8.mp z)▸he.1)
theorem vk (K:aJ B c A d) (W:aC B c m σ φ nw s) {n:Nat} {t:Tg} {kd:Nat} {l:List (V×V)} {k dv:V} {uo uk ud:Value} {Q:V→St→Prop} (hg:σ.get n=some (.dict t kd l)) (xo:VR B φ nw (.ref n) uo) (xk:VR B φ nw k uk) (xd:VR B φ nw dv ud)
  (hk:kk kd k=true) (q:Q ((ae l k).getD dv) σ):wpAny (model B.prog B.w) A (call (.builtin "dict.get") [uo,uk,ud]) (aq B c m φ nw Q) E s:=
 W.dictK hg xo λ a es j hm D hn hφ yy=>by
  refine wpAny_call_entry PySem.F.slot_dict_get ⟨_,W.inN hm,rfl⟩ PySem.F.entry_dict_get ?_ (PySem.F.args_dict_get_3 _ _ _)
  show wpAny _ _ (dictGet a uk>>=_) _ _ s
  refine JX (jb K W K.room40 hm D hn xk hk (λ e t=>?_) λ v uv e y t=>?_)
  ·show wpAny _ _ (Builtin.Dict.missed a uk>>=_) _ _ _
   exact JX (wpAny_missed_other (W.R.nm _ hm) (J7 ⟨_,rfl,aq.of (show Q ((none:Option V).getD dv) σ from e▸q) xd (W.tok _)⟩))
  ·exact J7 ⟨_,rfl,aq.of (show Q ((some v).getD dv) σ from e▸q) y (W.tok _)⟩
theorem vm (K:aJ B c A d) (W:aC B c m σ φ nw s) {l:List (Int×Int)} {i j:Int} {uo uk ud:Value} {Q:V→St→Prop} (xo:VR B φ nw (.gdict l) uo) (xk:VR B φ nw (.int i) uk) (xd:VR B φ nw (.int j) ud) (q:Q (.int ((l.lookup i).getD j)) σ):
  wpAny (model B.prog B.w) A (call (.builtin "dict.get") [uo,uk,ud]) (aq B c m φ nw Q) E s:=by
 refine VR.gdK xo λ a o kvs h1 h2 h3 h4 h5=>VR.intK xk λ tk=>?_
 have h1:=Heap.dictOf_iff.mpr ⟨_,W.inK K h1,h2⟩
 refine wpAny_call_entry PySem.F.slot_dict_get h1.mapOf.typeIs PySem.F.entry_dict_get ?_ (PySem.F.args_dict_get_3 _ _ _)
 show wpAny _ _ (dictGet a (.int i tk)>>=_) _ _ s
 refine JX (wpAny_dictGet_of (intKind_is _ _ i tk) h1.mapOf ?_)
 have h4:=h4 i
 cases hl:l.lookup i with
 |none=>
  rw [hl] at h4 q
  rw [h4]
  show wpAny _ _ (Builtin.Dict.missed a _>>=_) _ _ _
  exact JX (wpAny_missed_other h5 (J7 ⟨_,rfl,aq.of q xd (W.tok _)⟩))
 |some i'=>
  rw [hl] at h4 q
  exact h4.elim λ t h4=>by
   rw [h4]
   exact J7 ⟨_,rfl,aq.of q (.int _ _) (W.tok _)⟩
theorem Ei {o k dv:V} {uo uk ud:Value} {Q:V→St→Prop} (K:aJ B c A d) (W:aC B c m σ φ nw s) (xo:VR B φ nw o uo) (xk:VR B φ nw k uk) (xd:VR B φ nw dv ud) (q:jv o k dv σ Q):
  wpAny (model B.prog B.w) A (call (.builtin "dict.get") [uo,uk,ud]) (aq B c m φ nw Q) E s:=by
 unfold jv at q
 cases o with
 |gdict l=>cases k with
  |int i=>cases dv with
   |int j=>exact vm K W xo xk xd q
   |_=>exact q.elim
  |_=>exact q.elim
 |ref n=>
  dsimp only at q
  generalize hg:σ.get n=o at q
  cases o with
  |none=>exact q.elim
  |some o=>cases o with
   |dict t kd l=>exact vk K W hg xo xk xd q.1 q.2
   |_=>exact q.elim
 |_=>exact q.elim
theorem sY {n:Nat} {t:Tg} {kd:Nat} {l:List (V×V)} {k dv:V} {uo uk ud:Value} {Q:V→St→Prop} (K:aJ B c A d) (W:aC B c m σ φ nw s) (hg:σ.get n=some (.dict t kd l)) (xo:VR B φ nw (.ref n) uo) (xk:VR B φ nw k uk) (xd:VR B φ nw dv ud)
  (hk:kk kd k=true) (hl:l.length<aN) (q0:ae l k=none→Q dv (σ.put n (.dict t kd (l++[(k,dv)])))) (q1:∀v,ae l k=some v→Q v σ):wpAny (model B.prog B.w) A (call (.builtin "dict.setdefault") [uo,uk,ud]) (aq B c m φ nw Q) E s:=
 W.dictK hg xo λ a es j hm D hn hφ yy=>by
  have hT:s.TypeIs (.ref a) "dict":=⟨_,W.inN hm,rfl⟩
  refine wpAny_call_entry PySem.F.slot_dict_setdefault hT PySem.F.entry_dict_setdefault ?_ (PySem.F.args_dict_setdefault_3 _ _ _)
  unfold Builtin.«dict.setdefault»
  refine JX ?_
  unfold Builtin.Dict.keyAndDefault
  refine JX (wpAny_notOrdered_dict hT ?_)
  show wpAny _ _ (pure (a,uk,some ud)) _ _ s
  refine J7 ?_
  show wpAny _ _ (if (a==sysModules)=true then _ else (dictSetDefault a uk ud>>=_)) _ _ s
  rw [if_neg (by rw [W.R.nm _ hm];exact Lv)]
  exact JX (ja K W K.room40 hm D hn xk hk xd hl (λ v uv e y t=>J7 ⟨_,rfl,aq.of (q1 v e) y (W.tok _)⟩) λ e es' n' D' hn' hz' h' t' hs ho'=>J7 ⟨_,rfl,
   _,_,φ,_,q0 e,xd.setN W.R.nn hm (bw _ _) _,W.put hφ (.inl rfl) hm u7 (bw _ _) (.dict (bt hm) D' hn' (D'.length▸hz')) hs ho' t',bI.put (eW hφ)⟩)
theorem zS {o k dv:V} {uo uk ud:Value} {Q:V→St→Prop} (K:aJ B c A d) (W:aC B c m σ φ nw s) (xo:VR B φ nw o uo) (xk:VR B φ nw k uk) (xd:VR B φ nw dv ud) (q:fE o k dv σ Q):
  wpAny (model B.prog B.w) A (call (.builtin "dict.setdefault") [uo,uk,ud]) (aq B c m φ nw Q) E s:=by
 unfold fE at q
 cases o with
 |ref n=>
  dsimp only at q
  generalize hg:σ.get n=o at q
  cases o with
  |none=>exact q.elim
  |some o=>cases o with
   |dict t kd l=>exact sY K W hg xo xk xd q.1 q.2.1 (λ e=>by have q:=q.2.2;rw [e] at q;exact q) λ v e=>by have q:=q.2.2;rw [e] at q;exact q
   |_=>exact q.elim
 |_=>exact q.elim
theorem xg {v:V} {u:Value} {name:Str} {id:String} {pl:Sem Bool} {Q:Value×List Value→Shared→Prop} (W:aC B c m σ φ nw s) (x:VR B φ nw v u) (hv:isList v σ) (slot:Slot "list" name id) (hty:typeOf (.builtin id)=pure (.type "method_descriptor"))
  (h:Q (.builtin id,[u]) s):wpAny (model B.prog B.w) A (getMethod u name pl) Q E s:=by
 unfold isList at hv
 revert h
 exact om (P:=λ n t l=>True) W hv x λ n t l a vs k q hg hm y hφ h=>getMethod_builtin (W.isList hm).typeIs PySem.F.plainAttrs_list slot hty (λ b e=>Value.ref.inj e▸⟨_,W.inN hm,rfl⟩) h
theorem AC {v:V} {u:Value} {name:Str} {id:String} {pl:Sem Bool} {Q:Value×List Value→Shared→Prop} (K:aJ B c A d) (W:aC B c m σ φ nw s) (x:VR B φ nw v u) (hv:ed v σ) (slot:Slot "dict" name id) (hty:typeOf (.builtin id)=pure (.type "method_descriptor"))
  (h:Q (.builtin id,[u]) s):wpAny (model B.prog B.w) A (getMethod u name pl) Q E s:=by
 unfold ed at hv
 cases v with
 |ref n=>
  dsimp only at hv
  generalize hg:σ.get n=o at hv
  cases o with
  |none=>exact hv.elim
  |some o=>cases o with
   |dict t kd l=>
    revert h
    exact W.dictK hg x λ a es j hm D hn hφ yy h=>getMethod_builtin (T:="dict") ⟨_,W.inN hm,rfl⟩ PySem.F.plainAttrs_dict slot hty (λ b e=>Value.ref.inj e▸⟨_,W.inN hm,rfl⟩) h
   |_=>exact hv.elim
 |gdict l=>
  revert h
  refine VR.gdK x λ a o kvs h1 h2 h3 h4 h5 h=>?_
  have h1:=Heap.dictOf_iff.mpr ⟨_,W.inK K h1,h2⟩
  exact getMethod_builtin h1.mapOf.typeIs PySem.F.plainAttrs_dict slot hty h1.mapOf.noDict h
 |_=>exact hv.elim
noncomputable def zb (s:Shared) (vl vu:Value):Shared:={s with heap:=s.heap.push {cls:=.type "slice",data:=.fields #[vl,vu,.none]}}
noncomputable def Hy (B:Bx) (c:Cx) (m:Str→Option Value) (φ:bh) (nw:ad) (A:Around) (E:Value→Shared→Prop) (Q:V→St→Prop) (s:Shared) (T:String) (vl vu u:Value):Prop:=
 (zb s vl vu).TypeIs u T∧wpAny (model B.prog B.w) A (getItem u (.ref s.heap.objs.size)) (aq B c m φ nw Q) E (zb s vl vu)
theorem HL (W:aC B c m σ φ nw s) (vl vu:Value):aC B c m σ φ nw (zb s vl vu):=W.keep (λ b o h=>Heap.get?_push_of_some _ h) s.toks
theorem mS {a:Addr} {us us':List Value} {l:List V} {vl vu:Value} {lo hi:Option Int} {Q:V→St→Prop} (K:aJ B c A d) (W:aC B c m σ φ nw s) (L1:(zb s vl vu).heap.IsList a us.toArray) (hl:us.length≤aN) (pl:IsPart vl lo) (pu:IsPart vu hi)
  (e1:slicePick us.toArray lo hi none=us'.toArray) (y:bC B φ nw l us') (q:Q (.ref σ.len) (σ.new (.list aa l))):Hy B c m φ nw A E Q s "list" vl vu (.ref a):=
 have W1:=HL W vl vu
 have hz:us'.length≤us.length:=by have hz:=slicePick_size_le us.toArray lo hi none;rw [e1] at hz;exact hz
 ⟨L1.typeIs,wpAny_getItem_list_slice L1 (Heap.IsSliceOf.new ..) pl pu .none (λ e=>by cases e) (e1▸aq.regList (n:=0) (W1.alloc K (listOf us'.toArray 0) (kG (JT hz hl))) bI.extra (.head _) W1.fresh (W1.R.off W1.fresh) (y.mono W.R bI.extra) aa q) (cC hl)⟩
theorem ww {n:Nat} {t:Tg} {l:List V} {u vl vu:Value} {lo hi:Option Int} {Q:V→St→Prop} (K:aJ B c A d) (W:aC B c m σ φ nw s) (hg:σ.get n=some (.list t l)) (x:VR B φ nw (.ref n) u) (pl:IsPart vl lo) (pu:IsPart vu hi)
  (r:List V) (hr:∀us:List Value,bC B φ nw l us→∃us',slicePick us.toArray lo hi none=us'.toArray∧bC B φ nw r us') (q:Q (.ref σ.len) (σ.new (.list aa r))):Hy B c m φ nw A E Q s "list" vl vu u:=
 W.listK hg x λ a vs k hm y yy=>(hr vs y).elim λ us' e=>mS K W ((HL W vl vu).isList hm) (W.lenL hm) pl pu e.1 e.2 q
theorem wM {l:List V} {k:Int} (h0:0≤k) (us:List Value) (y:bC B φ nw l us):∃us',slicePick us.toArray none (some k) none=us'.toArray∧bC B φ nw (l.take k.toNat) us':=
 (K8 h0).elim λ j e=>⟨us.take k.toNat,by subst e;exact slicePick_upto' _ _,y.take _⟩
theorem wx {v1 v2:V} {u vu:Value} {Q:V→St→Prop} (K:aJ B c A d) (W:aC B c m σ φ nw s) (x1:VR B φ nw v1 u) (x2:VR B φ nw v2 vu) (q:jn v1 v2 σ Q):Hy B c m φ nw A E Q s "list" .none vu u:=by
 unfold jn at q
 cases v1 with
 |ref n=>cases v2 with
  |int k=>
   exact (kN (P:=λ l=>0≤k∧Q (.ref σ.len) (σ.new (.list aa (l.take k.toNat)))) q).elim λ t q=>q.elim λ l q=>by
    exact VR.intK x2 λ yy=>ww K W q.1 x1 .none (.int k _) _ (wM q.2.1) q.2.2
  |_=>exact q.elim
 |rol l=>cases v2 with
  |int k=>
   refine VR.intK x2 λ yy=>?_
   cases x1 with
   |rol h1 h2 h3=>exact (wM q.1 _ h3).elim λ us' e=>mS K W ⟨_,(HL W .none (.int k _)).F.keep _ _ (K.ro _ _ h1),rfl,_,rfl⟩ (JT h2 (by decide)) .none (.int k _) e.1 e.2 q.2
  |_=>exact q.elim
 |_=>exact q.elim
theorem zc {v1:V} {u:Value} {Q:V→St→Prop} (K:aJ B c A d) (W:aC B c m σ φ nw s) (x1:VR B φ nw v1 u) (q:iW v1 σ Q):Hy B c m φ nw A E Q s "list" .none .none u:=by
 unfold iW at q
 cases v1 with
 |ref n=>exact (kN (P:=λ l=>Q (.ref σ.len) (σ.new (.list aa l))) q).elim λ t q=>q.elim λ l q=>ww K W q.1 x1 .none .none _ (λ us y=>⟨us,slicePick_all _,y⟩) q.2
 |_=>exact q.elim
theorem sr {n k:Nat} (h:k≤n):Builtin.Str.strSliceIndices (some (k:Int)) none 1 n=(List.range (n - k)).map (k+·):=by
 unfold Builtin.Str.strSliceIndices
 show sliceRange (max (0:Int) (min (if (k:Int)<0 then (k:Int)+n else k) (n:Int))) n 1=_
 rw [if_neg (Int.not_lt.mpr (Int.natCast_nonneg k)),Int.min_eq_left (Int.ofNat_le.mpr h),Int.max_eq_right (Int.natCast_nonneg k),sliceRange_one]
theorem kz {x:Str} {t tk:Tok} {k:Nat} (h1:1≤k) (h2:k≤x.length):sliceMade x t (some ((k:Int),tk)) none none=.str ⟨(x.cps.toList.drop k).toArray⟩:=by
 have e:slicePicked x (some ((k:Int),tk)) none none=(List.range (x.length - k)).map (k+·):=sr h2
 unfold sliceMade
 rw [e,List.length_map,List.length_range,if_neg λ h=>absurd (beq_iff_eq.mp (Bool.and_eq_true_iff.mp h).2) (Nat.ne_of_lt (Nat.sub_lt (Nat.lt_of_lt_of_le h1 h2) h1)),pick_run,List.take_of_length_le]
 rw [List.length_drop];exact Kd _
theorem wy {v1:V} {k:Nat} {tk:Tok} {u:Value} {Q:V→St→Prop} (W:aC B c m σ φ nw s) (x1:VR B φ nw v1 u) (q:ia v1 k σ Q):Hy B c m φ nw A E Q s "str" (.int k tk) .none u:=by
 unfold ia at q
 cases v1 with
 |str x=>
  refine VR.strK x1 λ t=>?_
  refine ⟨typeIs_str _ _ _,wpAny_getItem_str_slice (l:=some ((k:Int),tk)) (u:=none) (st:=none) ⟨_,Heap.get?_push_size _ rfl,rfl,rfl⟩ rfl ?_⟩
  have e:(⟨((Str.ofString x).cps.toList.drop k).toArray⟩:Str)=Str.ofString (String.ofList (x.toList.drop k)):=by
   rw [Str.ofString_eq_toList,Str.ofString_eq_toList,String.toList_ofList]
   exact congrArg (λ l:List Nat=>(⟨l.toArray⟩:Str)) (List.map_drop ..).symm
  rw [kz q.1 (by rw [bL];exact q.2.1),e]
  refine ⟨?_,aq.of q.2.2.2 (.str _ _) ((HL W _ _).tok _)⟩
  rw [bL,String.length_ofList,List.length_drop,String.length_toList]
  exact cC (JT (Nat.sub_le _ _) (JT q.2.2.1 (by decide)))
 |_=>exact q.elim
end
inductive sd where
 |list (n:Nat)|tup (l:List V)|rng (a b:Int)
noncomputable def jR (σ:St) (l:List V):sd→Prop
 | .list n=>∃t,σ.get n=some (.list t l)
 | .tup l'=>l'=l
 | .rng a b=>l=bG a b∧0≤a∧a≤1000000∧0≤b∧b≤1000000
inductive iU (B:Bx) (φ:bh) (nw:ad) (i:Nat) (o:Obj):sd→Prop
 |list {n:Nat} {a:Addr}:VR B φ nw (.ref n) (.ref a)→o.cls=.type "list_iterator"→o.data=.fields #[.ref a,.int i 0]→iU B φ nw i o (.list n)
 |tup {l:List V} {a:Addr}:VR B φ nw (.tup l) (.ref a)→o.cls=.type "tuple_iterator"→o.data=.fields #[.ref a,.int i 0]→iU B φ nw i o (.tup l)
 |rng {a b:Int}:o={cls:=.type "range_iterator",data:=.fields #[rawInt (a+i),rawInt ((b - a).toNat - i),rawInt 1]}→iU B φ nw i o (.rng a b)
noncomputable def dK (nw:ad) (I:Addr):ad:=nw.filter λ p=>p.1 !=I
theorem aV {nw:ad} {I:Addr} {p:Addr×Obj}:p∈dK nw I↔p∈nw∧p.1≠I:=List.mem_filter.trans (and_congr_right λ yy=>bne_iff_ne)
section
variable {B:Bx} {c:Cx} {m:Str→Option Value} {σ:St} {φ:bh} {nw:ad} {s:Shared} {A:Around} {d:Nat} {E:Value→Shared→Prop}
theorem iU.cls {i:Nat} {o:Obj} {src:sd} (hO:iU B φ nw i o src):∃n vs,o.cls=.type n∧o.data=.fields vs∧(["enumerate","zip","dict_itemiterator","dict_reverseitemiterator","odict_iterator","itertools.zip_longest","itertools.pairwise"].contains n)=false:=by
 cases hO with
 |list _ h1 h2=>exact ⟨_,_,h1,h2,rfl⟩
 |tup _ h1 h2=>exact ⟨_,_,h1,h2,rfl⟩
 |rng h=>exact h▸⟨_,_,rfl,rfl,rfl⟩
theorem iU.mono' {φ':bh} {nw':ad} (hp:φ<+:φ') (ht:∀a vs n,(a,am vs n)∈nw→(a,am vs n)∈nw') {i:Nat} {o:Obj} {src:sd} (h:iU B φ nw i o src):iU B φ' nw' i o src:=by
 cases h with
 |list x h1 h2=>exact .list (x.mono' hp ht) h1 h2
 |tup x h1 h2=>exact .tup (x.mono' hp ht) h1 h2
 |rng h=>exact .rng h
theorem iU.noTup {i:Nat} {o:Obj} {src:sd} (h:iU B φ nw i o src):∀vs n,o≠am vs n:=λ vs n e=>h.cls.elim λ yy k=>k.elim λ yy k=>by cases (congrArg Obj.data e).symm.trans k.2.1
theorem iU.size {i:Nat} {o:Obj} {src:sd} (h:iU B φ nw i o src):mc o=0:=h.cls.elim λ yy k=>k.elim λ yy k=>by unfold mc;rw [k.2.1]
theorem ou (nn:(nw.map (·.1)).Nodup) {I:Addr} {o:Obj} (hI:(I,o)∈nw) (ht:∀vs n,o≠am vs n) {a:Addr} {vs:List Value} {n:Nat} (h:(a,am vs n)∈nw):a≠I:=λ e=>ht vs n (aM nn hI (e▸h))
theorem nv (nn:(nw.map (·.1)).Nodup) {I:Addr} {o:Obj} (hI:(I,o)∈nw) (ht:∀vs n,o≠am vs n):∀a vs n,(a,am vs n)∈nw→(a,am vs n)∈dK nw I:=λ yy yy yy h=>aV.mpr ⟨h,ou nn hI ht h⟩
theorem fY.drop (R:fY B σ φ nw) {I:Addr} {o:Obj} (hI:(I,o)∈nw) (hn:I∉aB φ) (ht:∀vs n,o≠am vs n):fY B σ φ (dK nw I):=
 ⟨R.len,R.nd,(List.filter_sublist.map _).nodup R.nn,λ p hp=>R.sz p (aV.mp hp).1,λ p hp=>R.nm p (aV.mp hp).1,λ n ob e=>(R.obj n ob e).imp λ a h=>h.imp λ d h=>
  ⟨h.1,h.2.mono' (J1 _) (λ p hp hpa=>aV.mpr ⟨hp,λ e=>hn (e▸hpa.elim (λ r=>r▸eW h.1) λ r=>oH (r▸h.1))⟩) (nv R.nn hI ht)⟩⟩
theorem aC.drop (W:aC B c m σ φ nw s) {I:Addr} {o:Obj} (hI:(I,o)∈nw) (hn:I∉aB φ) (ht:∀vs n,o≠am vs n) {h':Heap} (hs:Heap.ExtBut I s.heap h'):aC B c m σ φ (dK nw I) {s with heap:=h'}:=
 have nI:=W.N _ hI
 ⟨W.F.ns.elim λ oL a=>a.elim λ es a=>a.elim λ ep a=>⟨⟨oL,es,ep,hs _ _ (λ e=>nI.2.1 e.symm) a.1,a.2⟩,λ b x e=>hs _ _ (λ r=>by rw [r,nI.2.2] at e;cases e) (W.F.keep b x e),W.F.above⟩,
  λ p hp=>have h:=aV.mp hp;⟨hs _ _ h.2 (W.N p h.1).1,(W.N p h.1).2⟩,W.R.drop hI hn ht,W.g,W.o⟩
theorem bC.drop' {v:List V} {u:List Value} (x:bC B φ nw v u) (nn:(nw.map (·.1)).Nodup) {I:Addr} {o:Obj} (hI:(I,o)∈nw) (ht:∀vs n,o≠am vs n):bC B φ (dK nw I) v u:=
 x.mono' (J1 _) (nv nn hI ht)
theorem bI.drop {φ₀:bh} {news₀:ad} {I:Addr} (X:bI φ₀ news₀ φ nw) (hx:I∉news₀.map (·.1)):bI φ₀ news₀ φ (dK nw I):=
 ⟨X.pre,λ p hp hn=>aV.mpr ⟨X.kept p hp hn,λ e=>hx (e▸Ke (f:=(·.1)) hp)⟩,X.fresh⟩
theorem aC.turn (W:aC B c m σ φ nw s) {I:Addr} {o o':Obj} (hI:(I,o)∈nw) (hn:I∉aB φ) (ht:∀vs n,o≠am vs n) (hz:mc o'≤aN) {h':Heap} (hs:Heap.SameBut I s.heap h') (ho:h'.get? I=some o') (t:Nat):
  aC B c m σ φ (setN nw I o') {s with heap:=h',toks:=t}:=
 ⟨W.F.update W.N hI hs,Mine.News.setN W.N hs ho (Ke (f:=(·.1)) hI),W.R.turn hn hI hz ht,W.g,W.o⟩
theorem gV {a b:Int} {i:Nat} {v:V} (h:(bG a b)[i]? =some v):i<(b - a).toNat∧v=.int (a+(i:Int)):=by
 have h1:=lP h
 rw [bG,List.length_map,List.length_range] at h1
 rw [bG,List.getElem?_map,List.getElem?_range h1] at h
 exact ⟨h1,(J4 h).symm⟩
theorem m9 (K:aJ B c A d) (W:aC B c m σ φ nw s) {A':Around} {I:Addr} {o:Obj} (hI:(I,o)∈nw) (hn:I∉aB φ) {src:sd} {i:Nat} (hO:iU B φ nw i o src) {l:List V} (hs:jR σ l src) {v:V} (hv:l[i]? =some v)
  {Q:Option Value→Shared→Prop} (q:∀u o' h' t,VR B φ (setN nw I o') v u→aC B c m σ φ (setN nw I o') {s with heap:=h',toks:=t}→iU B φ (setN nw I o') (i+1) o' src→Q (some u) {s with heap:=h',toks:=t}):
  wpAny (model B.prog B.w) A' (pyNext (.ref I)) Q E s:=by
 have ht:=hO.noTup
 have fin:∀{u:Value} {h':Heap} {t:Nat} {o':Obj},VR B φ nw v u→Heap.SameBut I s.heap h'→h'.get? I=some o'→iU B φ nw (i+1) o' src→Q (some u) {s with heap:=h',toks:=t}:=λ {u h' t o'} x hs' ho' hO'=>
  have hk:∀a vs n,(a,am vs n)∈nw→(a,am vs n)∈setN nw I o':=λ a vs n hx=>au hx (ou W.R.nn hI ht hx)
  q u o' h' t (x.mono' (J1 _) hk) (W.turn hI hn ht (hO'.size▸Kw _) hs' ho' t) (hO'.mono' (J1 _) hk)
 cases hO with
 |@list n a x hc hd=>
  refine hs.elim λ t hg=>(W.list hg x).elim λ a' k=>k.elim λ vs k=>k.elim λ j k=>?_
  have e:=Value.ref.inj k.1
  subst e
  exact (k.2.2.1.get hv).elim λ u g=>wpAny_pyNext_list_item ⟨_,W.inN hI,hc,hd⟩ (W.isList k.2.1) (Le.trans g.1) λ h' hit hs'=>hit.elim λ o' hi=>fin g.2 hs' hi.1 (.list x hi.2.1 hi.2.2)
 |@tup l' a x hc hd=>
  cases hs
  refine (W.tuple K x).elim λ a' k=>k.elim λ vs k=>?_
  have e:=Value.ref.inj k.1
  subst e
  exact (k.2.2.1.get hv).elim λ u g=>wpAny_pyNext_tuple_item ⟨_,W.inN hI,hc,hd⟩ k.2.1 (Le.trans g.1) λ h' hit hs'=>hit.elim λ o' hi=>fin g.2 hs' hi.1 (.tup x hi.2.1 hi.2.2)
 |@rng a b e=>
  subst e
  have hv:=gV (hs.1▸hv)
  refine wpAny_pyNext_range_item (W.inN hI) (by have:=hv.1;omega) λ h' hit hs'=>fin (hv.2▸.int _ _) hs' hit (.rng ?_)
  have e1:a+(i:Int)+1=a+((i+1:Nat):Int):=Int.add_assoc ..
  have e2:(((b - a).toNat:Int) - (i:Int)) - 1=((b - a).toNat:Int) - ((i+1:Nat):Int):=Int.sub_sub ..
  rw [e1,e2]
theorem qU (K:aJ B c A d) (W:aC B c m σ φ nw s) {A':Around} (hh:A'.handled=none) {I:Addr} {o:Obj} (hI:(I,o)∈nw) (hn:I∉aB φ) {src:sd} {i:Nat} (hO:iU B φ nw i o src) {l:List V} (hs:jR σ l src) (hv:l.length=i)
  {Q:Option Value→Shared→Prop} (q:∀h',aC B c m σ φ (dK nw I) {s with heap:=h'}→Q none {s with heap:=h'}):
  wpAny (model B.prog B.w) A' (pyNext (.ref I)) Q E s:=by
 have ht:=hO.noTup
 cases hO with
 |@list n a x hc hd=>
  refine hs.elim λ t hg=>(W.list hg x).elim λ a' k=>k.elim λ vs k=>k.elim λ j k=>?_
  have e:=Value.ref.inj k.1
  subst e
  exact wpAny_pyNext_list_end hh ⟨_,W.inN hI,hc,hd⟩ (W.isList k.2.1) (Le.trans (Lc (J3 (k.2.2.1.length.symm.trans hv)))) λ h' hs'=>q h' (W.drop hI hn ht hs')
 |@tup l' a x hc hd=>
  cases hs
  refine (W.tuple K x).elim λ a' k=>k.elim λ vs k=>?_
  have e:=Value.ref.inj k.1
  subst e
  exact wpAny_pyNext_tuple_end hh ⟨_,W.inN hI,hc,hd⟩ k.2.1 (Le.trans (Lc (J3 (k.2.2.1.length.symm.trans hv)))) λ h' hs'=>q h' (W.drop hI hn ht hs')
 |@rng a b e=>
  subst e
  have e:(b - a).toNat=i:=by rw [←hv,hs.1,bG,List.length_map,List.length_range]
  exact wpAny_pyNext_range_end hh (W.inN hI) (by rw [e];exact Int.le_of_eq (Int.sub_self _)) λ h' hs'=>q h' (W.drop hI hn ht hs')
theorem Cu {v:V} {u:Value} {Q:List V→(St→Prop)→Prop} (K:aJ B c A d) (W:aC B c m σ φ nw s) (x:VR B φ nw v u) (q:cq v σ Q) {A':Around}:
  wpAny (model B.prog B.w) A' (pyIter u) (λ r s'=>∃I o l guard src,r=.ref I∧Q l guard∧I∉nw.map (·.1)∧aC B c m σ φ ((I,o)::nw) s'∧iU B φ ((I,o)::nw) 0 o src∧(∀σ',guard σ'→jR σ' l src)) E s:=by
 unfold cq at q
 cases v with
 |tup l=>exact W.tupK K x λ a vs h1 y hl x=>wpAny_pyIter_tuple h1 ⟨_,_,_,_,.tup _,rfl,q,W.fresh,W.alloc K _ (Kw _),.tup (x.mono W.R bI.extra) rfl rfl,λ yy yy=>rfl⟩
 |ref n=>
  dsimp only at q
  generalize hg:σ.get n=o at q
  cases o with
  |none=>exact q.elim
  |some o=>cases o with
   |list t l=>
    have x0:=x
    revert x
    exact W.listK hg x0 λ a vs k hm y yy x=>wpAny_pyIter_list (W.isList hm) ⟨_,_,_,_,.list n,rfl,q,W.fresh,W.alloc K _ (Kw _),.list (x.mono W.R bI.extra) rfl rfl,λ yy h=>⟨t,h⟩⟩
   |_=>exact q.elim
 |_=>exact q.elim
theorem kB (a b:Int):Builtin.Range.rangeSize a b 1=((b - a).toNat:Int):=by
 rw [PySem.rangeSize_one]
 by_cases h:a<b
 ·rw [if_pos h,Int.toNat_of_nonneg (Int.sub_nonneg_of_le (Int.le_of_lt h))]
 ·rw [if_neg h,Int.toNat_of_nonpos (Int.sub_nonpos_of_le (Int.not_lt.mp h))];rfl
theorem iw {i:Int} (h0:0≤i) (h1:i≤1000000):Builtin.Range.rangeFitsLong i=true:=
 J6.mpr ⟨KZ (KO (by decide) h0),KZ (K9 h1 (by decide))⟩
theorem ve {a b:Int} {t u v:Tok} {s':Shared} (K:aJ B c A d) (W:aC B c m σ φ nw s) (h0:0≤a) (h1:a≤1000000) (h2:0≤b) (h3:b≤1000000) {Q:Value→Shared→Prop} {A':Around}
  (hs':s'={s with heap:=s.heap.push {cls:=.type "range",data:=.fields #[.int a t,.int b u,.int 1 v]}})
  (q:∀I o s'',aC B c m σ φ ((I,o)::nw) s''→I∉nw.map (·.1)→iU B φ ((I,o)::nw) 0 o (.rng a b)→Q (.ref I) s'') (t':Nat):
  wpAny (model B.prog B.w) A' (pyIter (.ref s.heap.objs.size)) Q E {s' with toks:=t'}:=by
 subst hs'
 have W1:aC B c m σ φ nw {s with heap:=s.heap.push {cls:=.type "range",data:=.fields #[.int a t,.int b u,.int 1 v]},toks:=t'}:=W.keep (λ b o h=>Heap.get?_push_of_some _ h) t'
 refine wpAny_pyIter_range (a:=a) (b:=b) (c:=1) (t:=t) (u:=u) (v:=v) (Heap.get?_push_size _ rfl) ?_ ?_
 ·unfold Builtin.Range.small
  rw [kB]
  exact J6.mpr ⟨J6.mpr ⟨J6.mpr ⟨J6.mpr ⟨iw h0 h1,iw h2 h3⟩,rfl⟩,iw (Kp _) (KP.mpr (Int.toNat_le.mpr (KO (Int.sub_le_self _ h0) h3)))⟩,Li.mpr (.inr (iw (i:=b+(1 - 1)) ((Int.add_zero b).symm▸h2) ((Int.add_zero b).symm▸h3)))⟩
 ·rw [kB]
  exact q _ _ _ (W1.alloc K _ (Kw _)) W1.fresh (.rng (by rw [show a+((0:Nat):Int)=a from Int.add_zero a,show ((b - a).toNat:Int) - ((0:Nat):Int)=(b - a).toNat from Int.sub_zero _]))
end
noncomputable def fU:List Y:=[.set (.loc 1) (.sub (.loc 0) (.int 0)),.ite (.bool false [.cmp .eq (.loc 1) (.gn "R_CLASS"),.cmp .eq (.loc 1) (.gn "R_VALUE")]) [.ret (.sub (.loc 0) (.int 2))] [],.ite (.bool false [.cmp .eq (.loc 1) (.gn "R_ARRAY"),.cmp .eq (.loc 1) (.gn "R_BYREF"),.cmp .eq (.loc 1) (.gn "R_BOXED"),.cmp .eq (.loc 1) (.gn "R_ROREF"),.cmp .eq (.loc 1) (.gn "R_RAW")]) [.ret (.tup [.sub (.loc 0) (.int 1)])] [],.ite (.cmp .eq (.loc 1) (.gn "R_FTN")) [.ret (.bin .add (.tup [.sub (.loc 0) (.int 1)]) (.sub (.loc 0) (.int 3)))] [],.ret (.tup [])]
noncomputable def iH:List Y:=[.ite (.bool false [.cmp .eq (.loc 0) (.gn "R_CLASS"),.cmp .eq (.loc 0) (.gn "R_VALUE"),.cmp .eq (.loc 0) (.gn "R_ARRAY")]) [.ret (.int 1)] [],.ret (.int 0)]
noncomputable def gE:List Y:=[.ite (.bool false [.cmp .eq (.loc 0) (.gn "R_CLASS"),.cmp .eq (.loc 0) (.gn "R_VALUE")]) [.ret (.int 3)] [],.ite (.cmp .eq (.loc 0) (.gn "R_FTN")) [.ret (.int 4)] [],.ret (.int 2)]
noncomputable def d5:List Y:=[.ite (.bool false [.cmp .eq (.len (.loc 1)) (.int 0),.cmp .le (.sub (.loc 1) (.int 0)) (.gn "R_PRIM"),.cmp .gt (.sub (.loc 1) (.int 0)) (.gn "R_RAW")]) [.bad] [],.set (.loc 2) (.sub (.loc 1) (.int 0)),.ite (.cmp .ne (.len (.loc 1)) (.call "row_length" [.loc 2])) [.bad] [],.for_ false [3] (.call "inner_kinds" [.loc 1]) [.ex (.meth (.loc 0) "row" [.loc 3])],.ite (.bool false [.cmp .eq (.loc 2) (.gn "R_CLASS"),.cmp .eq (.loc 2) (.gn "R_VALUE")]) [.ex (.call "check_named" [.loc 0,.loc 1])] [.ite (.bool false [.cmp .eq (.loc 2) (.gn "R_VAR"),.cmp .eq (.loc 2) (.gn "R_MVAR")]) [.ite (.cmp .lt (.sub (.loc 1) (.int 1)) (.int 0)) [.bad] []] [.ite (.cmp .eq (.loc 2) (.gn "R_FTN")) [.ite (.bool false [.not_ (.call "may_stand" [.loc 0,.sub (.loc 1) (.int 1)]),.cmp .lt (.sub (.loc 1) (.int 2)) (.int 0)]) [.bad] [],.ex (.call "check_args" [.loc 0,.sub (.loc 1) (.int 3)])] [.ite (.cmp .eq (.loc 2) (.gn "R_BOXED")) [.ite (.not_ (.bool false [.call "is_value" [.loc 0,.sub (.loc 1) (.int 1)],.call "is_var" [.loc 0,.sub (.loc 1) (.int 1)]])) [.bad] []] [.ite (.not_ (.call "may_stand" [.loc 0,.sub (.loc 1) (.int 1)])) [.bad] []]]]]]
noncomputable def fV:List Y:=[.ite (.bool false [.cmp .le (.sub (.loc 1) (.int 1)) (.int 0),.cmp .isin (.sub (.loc 1) (.int 1)) (.gn "TID_PRIM")]) [.bad] [],.ex (.call "check_args" [.loc 0,.sub (.loc 1) (.int 2)])]
noncomputable def gL:List Y:=[.for_ false [2] (.loc 1) [.ite (.not_ (.call "may_stand" [.loc 0,.loc 2])) [.bad] []]]
noncomputable def iJ:List Y:=[.ite (.bool false [.cmp .eq (.loc 1) (.gn "VOID"),.cmp .eq (.loc 1) (.gn "NULLK")]) [.ret (.tt false)] [],.set (.loc 2) (.sub (.meth (.loc 0) "row" [.loc 1]) (.int 0)),.ret (.bool false [.cmp .le (.loc 2) (.gn "R_ARRAY"),.cmp .eq (.loc 2) (.gn "R_VAR"),.cmp .eq (.loc 2) (.gn "R_MVAR")])]
noncomputable def gK:List Y:=[.ite (.cmp .isin (.loc 1) (.gn "TID_PRIM")) [.ret (.call "prim_kind" [.loc 1,.loc 2])] [],.ret (.meth (.loc 0) "put" [.tup [.gn "R_CLASS",.loc 1,.loc 2]])]
noncomputable def oT:List Y:=[.ite (.cmp .gt (.len (.loc 1)) (.int 0)) [.bad] [],.ret (.sub (.gn "TID_PRIM") (.loc 0))]
noncomputable def gN:List Y:=[.ret (.meth (.loc 0) "put" [.tup [.gn "R_ARRAY",.loc 1]])]
noncomputable def jD:List Y:=[.ret (.meth (.loc 0) "put" [.tup [.gn "R_VAR",.loc 1]])]
noncomputable def rG:List Y:=[.ite (.bool true [.cmp .le (.gn "BOOL") (.loc 1),.cmp .le (.loc 1) (.gn "NINT")]) [.ret (.tt true)] [],.ret (.cmp .eq (.sub (.meth (.loc 0) "row" [.loc 1]) (.int 0)) (.gn "R_VALUE"))]
noncomputable def nM:List Y:=[.set (.loc 2) (.sub (.meth (.loc 0) "row" [.loc 1]) (.int 0)),.ret (.bool false [.cmp .eq (.loc 2) (.gn "R_VAR"),.cmp .eq (.loc 2) (.gn "R_MVAR")])]
noncomputable def lH:List Y:=[.ret (.dget (.gn "OP_SORT") (.loc 0) (.neg 1))]
noncomputable def fK:List Y:=[.set (.loc 1) (.list []),.for_ false [2] (.rng1 (.loc 0)) [.ex (.lapp (.loc 1) (.bin .add (.str "p") (.strOf (.loc 2))))],.ret (.tupleOf (.loc 1))]
noncomputable def lI:List Y:=[.ex (.lapp (.attr (.loc 0) "asms") (.loc 1)),.ret (.bin .sub (.len (.attr (.loc 0) "asms")) (.int 1))]
noncomputable def mt:List Y:=[.ite (.cmp .eq (.loc 1) (.gn "S_STRUCT")) [.ret (.call "class_kind" [.attr (.loc 0) "kt",.gn "T_VALUETYPE",.tup []])] [],.ite (.cmp .eq (.loc 1) (.gn "S_ENUM")) [.ret (.call "class_kind" [.attr (.loc 0) "kt",.gn "T_ENUM",.tup []])] [],.ite (.cmp .eq (.loc 1) (.gn "S_DELEGATE")) [.ret (.call "class_kind" [.attr (.loc 0) "kt",.gn "T_DELEGATE",.tup []])] [],.ret (.neg 1)]
noncomputable def gD:List Y:=[.ite (.cmp .eq (.loc 0) (.gn "S_IFACE")) [.bad] [],.ite (.cmp .eq (.loc 0) (.gn "S_CLASS")) [.ret (.loc 1)] [],.bad]
noncomputable def jO:List Y:=[.ite (.cmp .lt (.loc 5) (.int 0)) [.set (.loc 5) (.call "usual_base" [.loc 0,.loc 3])] [],.set (.loc 7) (.len (.attr (.loc 0) "types")),.ex (.lapp (.attr (.loc 0) "types") (.new "TypeDef" [.loc 7,.loc 2,.loc 3,.call "sort_flags" [.loc 3,.loc 4],.loc 5,.loc 6,.loc 1])),.set (.loc 8) (.tup [.loc 1,.loc 2,.len (.loc 6)]),.ite (.cmp .notin (.loc 8) (.attr (.loc 0) "names")) [.set (.sub (.attr (.loc 0) "names") (.loc 8)) (.loc 7)] [],.ret (.loc 7)]
noncomputable def iP:List Y:=[.set (.loc 6) (.sub (.attr (.loc 0) "types") (.loc 1)),.set (.loc 7) (.len (.attr (.loc 0) "fields_")),.ex (.lapp (.attr (.loc 0) "fields_") (.new "FieldDef" [.loc 7,.loc 1,.loc 2,.loc 3,.loc 4,.loc 5])),.ex (.lapp (.attr (.loc 6) "fields") (.loc 7)),.ret (.loc 7)]
noncomputable def gH:List Y:=[.ite (.bool true [.cmp .ne (.bin .band (.loc 0) (.bin .add (.gn "MF_CTOR") (.gn "MF_CCTOR"))) (.int 0),.cmp .ne (.bin .band (.loc 0) (.gn "MF_SPECIAL")) (.int 0)]) [.ret (.bin .sub (.loc 0) (.gn "MF_SPECIAL"))] [],.ret (.loc 0)]
noncomputable def gO:List Y:=[.set (.loc 7) (.sub (.attr (.loc 0) "types") (.loc 1)),.set (.loc 8) (.len (.attr (.loc 0) "methods")),.ex (.lapp (.attr (.loc 0) "methods") (.new "MethodDef" [.loc 8,.loc 1,.loc 2,.loc 3,.call "kept_flags" [.loc 4],.loc 5,.loc 6])),.ex (.lapp (.attr (.loc 7) "methods") (.loc 8)),.ex (.call "note_method" [.loc 0,.loc 8]),.ret (.loc 8)]
noncomputable def fL:List Y:=[.set (.loc 2) (.sub (.attr (.loc 0) "methods") (.loc 1)),.set (.loc 3) (.sub (.attr (.loc 0) "types") (.attr (.loc 2) "owner")),.ite (.cmp .ne (.bin .band (.attr (.loc 2) "flags") (.gn "MF_CCTOR")) (.int 0)) [.set (.attr (.loc 3) "cctor") (.loc 1)] [],.ite (.bool true [.cmp .eq (.attr (.loc 2) "name") (.str "Finalize"),.call "is_virtual" [.loc 2],.cmp .eq (.len (.attr (.loc 2) "params")) (.int 0),.cmp .eq (.attr (.loc 2) "ret") (.gn "VOID")]) [.ite (.bool false [.cmp .eq (.attr (.loc 2) "owner") (.gn "T_OBJECT"),.cmp .eq (.bin .band (.attr (.loc 2) "flags") (.gn "MF_NEWSLOT")) (.int 0)]) [.set (.attr (.loc 3) "finaliser") (.loc 1)] []] []]
noncomputable def fJ:List Y:=[.set (.loc 4) (.sub (.attr (.loc 0) "methods") (.loc 1)),.set (.attr (.loc 4) "ngen") (.len (.loc 2)),.set (.attr (.loc 4) "gnames") (.list []),.set (.attr (.loc 4) "gbounds") (.list []),.for_ false [5] (.rng1 (.len (.loc 2))) [.ex (.lapp (.attr (.loc 4) "gnames") (.sub (.loc 2) (.loc 5))),.ite (.cmp .lt (.loc 5) (.len (.loc 3))) [.ex (.lapp (.attr (.loc 4) "gbounds") (.sub (.loc 3) (.loc 5)))] [.ex (.lapp (.attr (.loc 4) "gbounds") (.tup [.int 0,.tup []]))]]]
noncomputable def jF:List Y:=[.set (.loc 6) (.list []),.for_ false [7] (.loc 4) [.ex (.lapp (.loc 6) (.loc 7))],.set (.loc 8) (.list []),.for_ false [9] (.loc 5) [.ex (.lapp (.loc 8) (.loc 9))],.set (.attr (.sub (.attr (.loc 0) "methods") (.loc 1)) "body") (.new "Body" [.tupleOf (.loc 2),.loc 3,.loc 6,.loc 8])]
noncomputable def jG:List Y:=[.ite (.cmp .notin (.loc 1) (.loc 0)) [.ex (.lapp (.loc 0) (.loc 1))] []]
noncomputable def jQ:List Y:=[.ex (.call "put_once" [.attr (.sub (.attr (.loc 0) "types") (.loc 1)) "impls",.tup [.loc 2,.loc 3,.loc 4]])]
noncomputable def jP:List Y:=[.ex (.call "put_once" [.attr (.sub (.attr (.loc 0) "types") (.loc 1)) "props",.tup [.loc 2,.loc 3,.loc 4,.loc 5,.loc 6]])]
noncomputable def iQ:List Y:=[.ex (.call "put_once" [.attr (.sub (.attr (.loc 0) "types") (.loc 1)) "events",.tup [.loc 2,.loc 3,.loc 4,.loc 5]])]
noncomputable def mu:List Y:=[.ret (.cmp .ne (.bin .band (.attr (.loc 0) "flags") (.gn "MF_VIRTUAL")) (.int 0))]
noncomputable def iG:List Y:=[.ite (.cmp .ne (.call "asm_name" [.loc 0,.loc 1]) (.call "asm_name" [.loc 2,.loc 3])) [.ret (.tt false)] [],.set (.loc 4) (.call "own_types" [.loc 0,.loc 1]),.set (.loc 5) (.call "own_types" [.loc 2,.loc 3]),.ite (.cmp .ne (.len (.loc 4)) (.len (.loc 5))) [.ret (.tt false)] [],.set (.loc 6) (.dict 2 [] []),.set (.loc 7) (.new "Paths" [.loc 0,.loc 4,.loc 6]),.set (.loc 8) (.new "Paths" [.loc 2,.loc 5,.loc 6]),.for_ false [9] (.rng1 (.len (.loc 4))) [.ite (.cmp .ne (.call "type_told" [.loc 7,.sub (.loc 4) (.loc 9)]) (.call "type_told" [.loc 8,.sub (.loc 5) (.loc 9)])) [.ret (.tt false)] []],.ret (.tt true)]
noncomputable def jN:List Y:=[.ite (.bool false [.cmp .lt (.loc 1) (.int 0),.cmp .ge (.loc 1) (.len (.attr (.loc 0) "asms"))]) [.bad] [],.ret (.sub (.attr (.loc 0) "asms") (.loc 1))]
noncomputable def iI:List Y:=[.ret (.comp (.loc 2) [1,0] false 1 (.rng2 (.int 1) (.len (.attr (.loc 0) "types"))) [.bool true [.cmp .isnot (.sub (.attr (.loc 1) "types") (.loc 2)) .none,.cmp .eq (.attr (.sub (.attr (.loc 1) "types") (.loc 2)) "asm") (.loc 0)]])]
noncomputable def jE:List Y:=[.ite (.bool false [.cmp .le (.loc 1) (.int 0),.cmp .ge (.loc 1) (.len (.loc 0))]) [.bad] [],.ret (.sub (.loc 0) (.loc 1))]
noncomputable def iF:List Y:=[.ite (.cmp .eq (.loc 1) (.int 0)) [.ret (.tup [])] [],.ite (.cmp .isin (.loc 1) (.attr (.loc 0) "places")) [.ret (.tup [.sub (.attr (.loc 0) "places") (.loc 1)])] [],.set (.loc 2) (.call "standing" [.attr (.attr (.loc 0) "store") "types",.loc 1,.str "type"]),.ite (.cmp .is (.loc 2) .none) [.ret (.tup [.str "",.loc 1])] [],.set (.loc 3) (.list [.sub (.attr (.attr (.loc 0) "store") "asms") (.attr (.loc 2) "asm")]),.whl (.cmp .isnot (.loc 2) .none) [.ex (.lapp (.loc 3) (.attr (.loc 2) "name")),.ex (.lapp (.loc 3) (.len (.attr (.loc 2) "params"))),.set (.loc 2) (.ite (.cmp .lt (.attr (.loc 2) "home") (.attr (.loc 2) "tid")) (.sub (.attr (.attr (.loc 0) "store") "types") (.attr (.loc 2) "home")) .none)],.ret (.tupleOf (.loc 3))]
noncomputable def gG:List Y:=[.set (.loc 2) (.list [.loc 1]),.whl (.loc 2) [.set (.loc 3) (.sub (.loc 2) (.neg 1)),.for_ false [4] (.call "path_parts" [.loc 0,.loc 3]) [.ite (.cmp .notin (.loc 4) (.attr (.loc 0) "known")) [.ex (.lapp (.loc 2) (.loc 4))] []],.ite (.cmp .eq (.sub (.loc 2) (.neg 1)) (.loc 3)) [.ex (.lpop (.loc 2)),.set (.loc 5) (.call "kind_path" [.loc 0,.loc 3]),.set (.sub (.attr (.loc 0) "known") (.loc 3)) (.dsetd (.attr (.loc 0) "index") (.loc 5) (.len (.attr (.loc 0) "index")))] []]]
noncomputable def gF:List Y:=[.ret (.ite (.cmp .eq (.loc 1) (.neg 1)) (.tup []) (.call "inner_kinds" [.meth (.attr (.attr (.loc 0) "store") "kt") "row" [.loc 1]]))]
noncomputable def iN:List Y:=[.ite (.cmp .eq (.loc 1) (.neg 1)) [.ret (.tup [])] [],.set (.loc 2) (.meth (.attr (.attr (.loc 0) "store") "kt") "row" [.loc 1]),.ite (.bool false [.cmp .eq (.sub (.loc 2) (.int 0)) (.gn "R_CLASS"),.cmp .eq (.sub (.loc 2) (.int 0)) (.gn "R_VALUE")]) [.ret (.tup [.sub (.loc 2) (.int 0),.call "type_path" [.loc 0,.sub (.loc 2) (.int 1)],.meth (.loc 0) "kinds" [.sub (.loc 2) (.int 2)]])] [],.ite (.bool false [.cmp .eq (.sub (.loc 2) (.int 0)) (.gn "R_PRIM"),.call "is_var" [.attr (.attr (.loc 0) "store") "kt",.loc 1]]) [.ret (.loc 2)] [],.ite (.bool true [.cmp .ne (.sub (.loc 2) (.int 0)) (.gn "R_ARRAY"),.cmp .ne (.sub (.loc 2) (.int 0)) (.gn "R_BYREF")]) [.bad] [],.ret (.tup [.sub (.loc 2) (.int 0),.meth (.loc 0) "kind" [.sub (.loc 2) (.int 1)]])]
noncomputable def fO:List Y:=[.set (.tup [2,3,4]) (.loc 1),.ret (.tup [.meth (.loc 0) "kind" [.loc 2],.call "method_name" [.loc 0,.loc 3],.meth (.loc 0) "kinds" [.loc 4]])]
noncomputable def fP:List Y:=[.ite (.cmp .eq (.loc 1) (.int 0)) [.ret (.tup [])] [],.set (.loc 2) (.call "standing" [.attr (.attr (.loc 0) "store") "methods",.loc 1,.str "method"]),.ite (.cmp .is (.loc 2) .none) [.ret (.tup [.loc 1])] [],.ret (.tup [.attr (.loc 2) "name",.attr (.loc 2) "ngen",.bin .band (.attr (.loc 2) "flags") (.gn "MF_STATIC"),.meth (.loc 0) "kind" [.attr (.loc 2) "ret"],.meth (.loc 0) "kinds" [.attr (.loc 2) "params"]])]
noncomputable def gJ:List Y:=[.set (.loc 2) (.call "standing" [.attr (.attr (.loc 0) "store") "fields_",.sub (.loc 1) (.int 1),.str "field"]),.ite (.cmp .is (.loc 2) .none) [.ret (.tup [.meth (.loc 0) "kind" [.sub (.loc 1) (.int 0)],.sub (.loc 1) (.int 1)])] [],.ret (.tup [.meth (.loc 0) "kind" [.sub (.loc 1) (.int 0)],.attr (.loc 2) "name",.meth (.loc 0) "kind" [.attr (.loc 2) "kind"]])]
noncomputable def fQ:List Y:=[.ite (.cmp .eq (.loc 1) (.int 0)) [.ret (.tup [])] [],.set (.loc 2) (.call "standing" [.attr (.attr (.loc 0) "store") "methods",.loc 1,.str "method"]),.set (.loc 3) (.ite (.cmp .is (.loc 2) .none) (.int 0) (.attr (.loc 2) "owner")),.ret (.tup [.call "type_path" [.loc 0,.loc 3],.call "method_name" [.loc 0,.loc 1]])]
noncomputable def gM:List Y:=[.ret (.tupleOf (.comp (.tup [.sub (.loc 1) (.int 0),.meth (.loc 0) "kinds" [.sub (.loc 1) (.int 1)]]) [0] false 1 (.loc 1) []))]
noncomputable def iE:List Y:=[.set (.loc 2) (.sub (.attr (.attr (.loc 0) "store") "types") (.loc 1)),.set (.loc 3) (.tup [.attr (.loc 2) "name",.attr (.loc 2) "sort",.attr (.loc 2) "flags",.meth (.loc 0) "kind" [.attr (.loc 2) "base"],.meth (.loc 0) "kinds" [.attr (.loc 2) "ifaces"],.meth (.loc 0) "kind" [.attr (.loc 2) "under"]]),.set (.loc 4) (.tup [.tupleOf (.attr (.loc 2) "params"),.tupleOf (.attr (.loc 2) "variances"),.call "bound_rows" [.loc 0,.attr (.loc 2) "bounds"],.call "type_path" [.loc 0,.attr (.loc 2) "home"]]),.set (.loc 5) (.tupleOf (.comp (.call "field_told" [.loc 0,.loc 1]) [0] false 1 (.attr (.loc 2) "fields") [])),.set (.loc 6) (.tupleOf (.comp (.call "method_told" [.loc 0,.loc 1]) [0] false 1 (.attr (.loc 2) "methods") [])),.set (.loc 7) (.tupleOf (.comp (.tup [.call "member_name" [.loc 0,.loc 1],.call "method_path" [.loc 0,.tup [.loc 2,.loc 3,.tup []]]]) [0] true 3 (.attr (.loc 2) "impls") [])),.set (.loc 8) (.tupleOf (.comp (.tup [.loc 1,.meth (.loc 0) "kind" [.loc 2],.call "member_name" [.loc 0,.loc 3],.call "member_name" [.loc 0,.loc 4],.meth (.loc 0) "kinds" [.loc 5]]) [0] true 5 (.attr (.loc 2) "props") [])),.set (.loc 9) (.tupleOf (.comp (.tup [.loc 1,.meth (.loc 0) "kind" [.loc 2],.call "member_name" [.loc 0,.loc 3],.call "member_name" [.loc 0,.loc 4]]) [0] true 4 (.attr (.loc 2) "events") [])),.set (.loc 10) (.tup [.call "member_name" [.loc 0,.attr (.loc 2) "cctor"],.call "member_name" [.loc 0,.attr (.loc 2) "finaliser"]]),.ret (.tup [.loc 3,.loc 4,.loc 5,.loc 6,.loc 7,.loc 8,.loc 9,.loc 10])]
noncomputable def gI:List Y:=[.set (.loc 2) (.sub (.attr (.attr (.loc 0) "store") "fields_") (.loc 1)),.ret (.tup [.attr (.loc 2) "name",.meth (.loc 0) "kind" [.attr (.loc 2) "kind"],.attr (.loc 2) "access",.attr (.loc 2) "flags",.attr (.loc 2) "value"])]
noncomputable def fM:List Y:=[.set (.loc 2) (.sub (.attr (.attr (.loc 0) "store") "methods") (.loc 1)),.set (.loc 3) (.tup [.attr (.loc 2) "name",.attr (.loc 2) "access",.attr (.loc 2) "flags",.attr (.loc 2) "ngen",.tupleOf (.attr (.loc 2) "gnames"),.call "bound_rows" [.loc 0,.attr (.loc 2) "gbounds"],.attr (.loc 2) "native"]),.set (.loc 4) (.tup [.meth (.loc 0) "kind" [.attr (.loc 2) "ret"],.meth (.loc 0) "kinds" [.attr (.loc 2) "params"],.tupleOf (.attr (.loc 2) "pnames"),.tupleOf (.attr (.loc 2) "pflags")]),.ite (.cmp .is (.attr (.loc 2) "body") .none) [.ret (.tup [.loc 3,.loc 4,.tup []])] [],.ret (.tup [.loc 3,.loc 4,.call "body_told" [.loc 0,.attr (.loc 2) "body"]])]
noncomputable def iO:List Y:=[.set (.loc 2) (.ite (.cmp .gt (.attr (.loc 1) "maxstack") (.gn "LEAST_DEEP")) (.attr (.loc 1) "maxstack") (.gn "LEAST_DEEP")),.set (.loc 3) (.tupleOf (.comp (.tup [.sub (.loc 1) (.int 0),.call "operand_path" [.loc 0,.call "op_sort" [.sub (.loc 1) (.int 0)],.sub (.loc 1) (.int 1)]]) [0] false 1 (.attr (.loc 1) "code") [])),.set (.loc 4) (.tupleOf (.comp (.call "clause_path" [.loc 0,.loc 1]) [0] false 1 (.attr (.loc 1) "clauses") [])),.ret (.tup [.meth (.loc 0) "kinds" [.attr (.loc 1) "locals_"],.loc 2,.loc 3,.loc 4])]
noncomputable def lL:List Y:=[.ite (.cmp .ne (.sub (.loc 1) (.int 0)) (.gn "EC_CATCH")) [.ret (.tupleOf (.loc 1))] [],.ret (.bin .add (.tupleOf (.slTo (.loc 1) (.int 5))) (.tup [.meth (.loc 0) "kind" [.sub (.loc 1) (.int 5)]]))]
noncomputable def eY:List Y:=[.ite (.bool false [.cmp .eq (.loc 1) (.gn "SO_KIND"),.cmp .eq (.loc 1) (.gn "SO_TOKEN")]) [.ret (.meth (.loc 0) "kind" [.loc 2])] [],.ite (.cmp .eq (.loc 1) (.gn "SO_FIELD")) [.ret (.call "field_path" [.loc 0,.loc 2])] [],.ite (.cmp .eq (.loc 1) (.gn "SO_METHOD")) [.ret (.call "method_path" [.loc 0,.loc 2])] [],.ite (.cmp .eq (.loc 1) (.gn "SO_SWITCH")) [.ret (.tupleOf (.loc 2))] [],.ret (.loc 2)]
noncomputable def jM:List Y:=[.set (.loc 2) (.sub (.loc 0) (.str "nums")),.set (.loc 3) (.sub (.loc 0) (.str "at")),.set (.sub (.loc 0) (.str "at")) (.bin .add (.loc 3) (.int 1)),.set (.loc 4) (.len (.loc 2)),.ret (.bin .mod (.bin .add (.sub (.loc 2) (.bin .mod (.loc 3) (.loc 4))) (.bin .mul (.bin .fdiv (.loc 3) (.loc 4)) (.bin .add (.bin .mod (.sub (.loc 2) (.int 0)) (.int 7)) (.bin .mul (.int 3) (.loc 3))))) (.loc 1))]
noncomputable def fR:List Y:=[.set (.loc 4) (.call "_law_draw" [.loc 0,.int 11]),.set (.loc 5) (.bin .add (.int 1) (.call "_law_draw" [.loc 0,.int 10])),.set (.loc 6) (.list []),.for_ false [7] (.rng1 (.loc 3)) [.set (.loc 8) (.ite (.cmp .lt (.call "_law_draw" [.loc 0,.int 6]) (.int 5)) (.sub (.loc 2) (.int 0)) (.sub (.loc 2) (.int 1))),.set (.loc 9) (.sub (.loc 1) (.bin .mod (.bin .add (.loc 4) (.bin .mul (.loc 7) (.loc 5))) (.int 11))),.ex (.lapp (.loc 6) (.ite (.cmp .eq (.sub (.loc 2) (.int 0)) (.str "f")) (.tup [.loc 8,.loc 9]) (.bin .add (.tup [.loc 8]) (.loc 9))))],.ret (.loc 6)]
noncomputable def lJ:List Y:=[.set (.loc 2) (.sub (.tup [.int 0,.int 1,.int 0]) (.call "_law_draw" [.loc 0,.int 3])),.set (.loc 3) (.sub (.sub (.loc 1) (.str "methods")) (.loc 2)),.ret (.tup [.loc 2,.sub (.loc 3) (.call "_law_draw" [.loc 0,.len (.loc 3)])])]
noncomputable def bY:List Y:=[.set (.loc 1) (.dict 1 ["fields","methods","code","impls","props","events"] [.list [],.list [],.list [],.list [],.list [],.list []]),.for_ false [2] (.tup [.int 0,.int 1]) [.ex (.lapp (.sub (.loc 1) (.str "fields")) (.call "_law_members" [.loc 0,.gn "_law_terms",.str "fg",.bin .add (.int 2) (.call "_law_draw" [.loc 0,.int 3])])),.ex (.lapp (.sub (.loc 1) (.str "methods")) (.call "_law_members" [.loc 0,.gn "_law_heads",.str "mn",.bin .add (.int 2) (.call "_law_draw" [.loc 0,.int 3])]))],.ite (.cmp .gt (.call "_law_draw" [.loc 0,.int 3]) (.int 0)) [.for_ false [3] (.tup [.str "fields",.str "methods"]) [.set (.loc 4) (.sub (.sub (.sub (.loc 1) (.loc 3)) (.int 0)) (.call "_law_draw" [.loc 0,.len (.sub (.sub (.loc 1) (.loc 3)) (.int 0))])),.ite (.cmp .notin (.loc 4) (.sub (.sub (.loc 1) (.loc 3)) (.int 1))) [.set (.sub (.sub (.sub (.loc 1) (.loc 3)) (.int 1)) (.int 0)) (.loc 4)] []]] [],.for_ false [5] (.rng1 (.bin .add (.int 2) (.call "_law_draw" [.loc 0,.int 3]))) [.set (.loc 2) (.call "_law_draw" [.loc 0,.int 2]),.set (.loc 3) (.sub (.tup [.str "fields",.str "methods"]) (.call "_law_draw" [.loc 0,.int 2])),.ex (.lapp (.sub (.loc 1) (.str "code")) (.tup [.loc 3,.loc 2,.sub (.str "is") (.call "_law_draw" [.loc 0,.int 2]),.sub (.sub (.sub (.loc 1) (.loc 3)) (.loc 2)) (.call "_law_draw" [.loc 0,.len (.sub (.sub (.loc 1) (.loc 3)) (.loc 2))])]))],.for_ false [5] (.rng1 (.bin .add (.int 1) (.call "_law_draw" [.loc 0,.int 2]))) [.set (.loc 6) (.sub (.sub (.loc 1) (.str "methods")) (.int 1)),.ex (.lapp (.sub (.loc 1) (.str "impls")) (.tup [.call "_law_one" [.loc 0,.loc 1],.sub (.str "is") (.call "_law_draw" [.loc 0,.int 2]),.sub (.loc 6) (.call "_law_draw" [.loc 0,.len (.loc 6)])]))],.for_ false [7] (.tup [.sub (.loc 1) (.str "props"),.sub (.loc 1) (.str "events")]) [.set (.loc 8) (.sub (.gn "_law_terms") (.call "_law_draw" [.loc 0,.int 11])),.for_ false [5] (.rng1 (.int 2)) [.ex (.lapp (.loc 7) (.tup [.str "p",.loc 8,.call "_law_one" [.loc 0,.loc 1],.call "_law_one" [.loc 0,.loc 1]]))]],.set (.sub (.loc 1) (.str "held")) (.call "_law_one" [.loc 0,.loc 1]),.set (.sub (.loc 1) (.str "kept")) (.list [.call "_law_one" [.loc 0,.loc 1],.call "_law_one" [.loc 0,.loc 1]]),.ret (.loc 1)]
noncomputable def jH:List Y:=[.ite (.cmp .gt (.len (.loc 1)) (.int 1)) [.set (.loc 2) (.call "_law_draw" [.loc 0,.len (.loc 1)]),.set (.loc 3) (.bin .mod (.bin .add (.bin .add (.loc 2) (.int 1)) (.call "_law_draw" [.loc 0,.bin .sub (.len (.loc 1)) (.int 1)])) (.len (.loc 1))),.set (.loc 4) (.sub (.loc 1) (.loc 2)),.set (.sub (.loc 1) (.loc 2)) (.sub (.loc 1) (.loc 3)),.set (.sub (.loc 1) (.loc 3)) (.loc 4)] []]
noncomputable def jJ:List Y:=[.ret (.sub (.loc 1) (.bin .mod (.bin .add (.bin .add (.lindex (.loc 1) (.loc 2)) (.int 1)) (.call "_law_draw" [.loc 0,.bin .sub (.len (.loc 1)) (.int 1)])) (.len (.loc 1))))]
noncomputable def iL:List Y:=[.ite (.bool true [.cmp .isin (.loc 4) (.sub (.sub (.loc 1) (.loc 2)) (.bin .sub (.int 1) (.loc 3))),.call "_law_draw" [.loc 0,.int 2]]) [.ret (.tup [.bin .sub (.int 1) (.loc 3),.loc 4])] [],.ret (.tup [.loc 3,.call "_law_next" [.loc 0,.sub (.sub (.loc 1) (.loc 2)) (.loc 3),.loc 4]])]
noncomputable def iK:List Y:=[.ret (.call "_law_moved" [.loc 0,.loc 1,.str "methods",.sub (.loc 2) (.int 0),.sub (.loc 2) (.int 1)])]
noncomputable def d4:List Y:=[.ite (.bool false [.cmp .eq (.loc 2) (.int 1),.cmp .eq (.loc 2) (.int 2)]) [.ex (.call "_law_swap" [.loc 0,.sub (.sub (.loc 1) (.sub (.tup [.str "fields",.str "methods"]) (.bin .sub (.loc 2) (.int 1)))) (.call "_law_draw" [.loc 0,.int 2])])] [],.ite (.bool false [.cmp .eq (.loc 2) (.int 3),.cmp .eq (.loc 2) (.int 4)]) [.set (.loc 3) (.call "_law_draw" [.loc 0,.len (.sub (.loc 1) (.str "code"))]),.set (.tup [4,5,6,7]) (.sub (.sub (.loc 1) (.str "code")) (.loc 3)),.ite (.bool true [.cmp .eq (.loc 2) (.int 4),.call "_law_draw" [.loc 0,.int 2]]) [.set (.loc 6) (.ite (.cmp .eq (.loc 6) (.str "i")) (.str "s") (.str "i"))] [.set (.tup [5,7]) (.call "_law_moved" [.loc 0,.loc 1,.loc 4,.loc 5,.loc 7])],.set (.sub (.sub (.loc 1) (.str "code")) (.loc 3)) (.tup [.loc 4,.loc 5,.loc 6,.loc 7])] [],.ite (.bool false [.cmp .eq (.loc 2) (.int 5),.cmp .eq (.loc 2) (.int 6)]) [.set (.loc 3) (.call "_law_draw" [.loc 0,.len (.sub (.loc 1) (.str "impls"))]),.set (.tup [8,6,9]) (.sub (.sub (.loc 1) (.str "impls")) (.loc 3)),.ite (.cmp .eq (.loc 2) (.int 5)) [.set (.sub (.sub (.loc 1) (.str "impls")) (.loc 3)) (.tup [.call "_law_other" [.loc 0,.loc 1,.loc 8],.loc 6,.loc 9])] [.ite (.cmp .eq (.call "_law_draw" [.loc 0,.int 3]) (.int 2)) [.set (.sub (.sub (.loc 1) (.str "impls")) (.loc 3)) (.tup [.loc 8,.ite (.cmp .eq (.loc 6) (.str "i")) (.str "s") (.str "i"),.loc 9])] [.set (.sub (.sub (.loc 1) (.str "impls")) (.loc 3)) (.tup [.loc 8,.loc 6,.call "_law_next" [.loc 0,.sub (.sub (.loc 1) (.str "methods")) (.int 1),.loc 9]])]]] [],.ite (.bool false [.cmp .eq (.loc 2) (.int 7),.cmp .eq (.loc 2) (.int 8)]) [.ex (.call "_law_swap" [.loc 0,.sub (.loc 1) (.sub (.tup [.str "props",.str "events"]) (.bin .sub (.loc 2) (.int 7)))])] [],.ite (.bool false [.cmp .eq (.loc 2) (.int 9),.cmp .eq (.loc 2) (.int 10)]) [.set (.loc 10) (.sub (.loc 1) (.sub (.tup [.str "props",.str "events"]) (.bin .sub (.loc 2) (.int 9)))),.set (.loc 3) (.call "_law_draw" [.loc 0,.int 2]),.set (.tup [11,12,13,14]) (.sub (.loc 10) (.loc 3)),.ite (.call "_law_draw" [.loc 0,.int 2]) [.set (.sub (.loc 10) (.loc 3)) (.tup [.loc 11,.loc 12,.call "_law_other" [.loc 0,.loc 1,.loc 13],.loc 14])] [.set (.sub (.loc 10) (.loc 3)) (.tup [.loc 11,.loc 12,.loc 13,.call "_law_other" [.loc 0,.loc 1,.loc 14]])]] [],.ite (.cmp .eq (.loc 2) (.int 11)) [.set (.loc 3) (.call "_law_draw" [.loc 0,.int 2]),.set (.sub (.sub (.loc 1) (.str "kept")) (.loc 3)) (.call "_law_other" [.loc 0,.loc 1,.sub (.sub (.loc 1) (.str "kept")) (.loc 3)])] [],.ite (.cmp .eq (.loc 2) (.int 12)) [.set (.sub (.loc 1) (.str "held")) (.call "_law_other" [.loc 0,.loc 1,.sub (.loc 1) (.str "held")])] []]
noncomputable def fS:List Y:=[.set (.loc 2) (.dict 1 ["held"] [.sub (.loc 1) (.str "held")]),.for_ false [3] (.tup [.str "fields",.str "methods"]) [.set (.sub (.loc 2) (.loc 3)) (.list [.slAll (.sub (.sub (.loc 1) (.loc 3)) (.int 0)),.slAll (.sub (.sub (.loc 1) (.loc 3)) (.int 1))])],.for_ false [3] (.tup [.str "code",.str "impls",.str "props",.str "events",.str "kept"]) [.set (.sub (.loc 2) (.loc 3)) (.slAll (.sub (.loc 1) (.loc 3)))],.for_ false [4] (.rng1 (.sub (.tup [.int 1,.int 2,.int 1]) (.call "_law_draw" [.loc 0,.int 3]))) [.ex (.call "_law_turn" [.loc 0,.loc 2,.call "_law_draw" [.loc 0,.int 13]])],.ret (.loc 2)]
noncomputable def jI:List Y:=[.set (.loc 1) (.list []),.for_ false [2] (.loc 0) [.ite (.cmp .notin (.loc 2) (.loc 1)) [.ex (.lapp (.loc 1) (.loc 2))] []],.ret (.loc 1)]
noncomputable def iM:List Y:=[.for_ false [2] (.tup [.str "fields",.str "methods",.str "code",.str "held",.str "kept"]) [.ite (.cmp .ne (.sub (.loc 0) (.loc 2)) (.sub (.loc 1) (.loc 2))) [.ret (.tt false)] []],.for_ false [2] (.tup [.str "impls",.str "props",.str "events"]) [.ite (.cmp .ne (.call "_law_once" [.sub (.loc 0) (.loc 2)]) (.call "_law_once" [.sub (.loc 1) (.loc 2)])) [.ret (.tt false)] []],.ret (.tt true)]
noncomputable def jL:List Y:=[.ite (.cmp .eq (.sub (.loc 2) (.int 0)) (.str "a")) [.ret (.call "array_kind" [.loc 0,.call "_law_kind" [.loc 0,.loc 1,.slFrom (.loc 2) 1]])] [],.ite (.bool false [.cmp .eq (.sub (.loc 2) (.int 0)) (.str "A"),.cmp .eq (.sub (.loc 2) (.int 0)) (.str "B")]) [.ret (.call "class_kind" [.loc 0,.sub (.loc 1) (.ite (.cmp .eq (.sub (.loc 2) (.int 0)) (.str "A")) (.int 0) (.int 1)),.tup [.ite (.cmp .eq (.sub (.loc 2) (.int 1)) (.str "i")) (.int 7) (.int 13)]])] [],.ite (.cmp .eq (.loc 2) (.str "L")) [.ret (.call "class_kind" [.loc 0,.sub (.loc 1) (.int 2),.tup []])] [],.ite (.cmp .eq (.loc 2) (.str "T")) [.ret (.call "var_kind" [.loc 0,.int 0])] [],.ret (.sub (.dict 1 ["v","u","i","o","s"] [.int 0,.int 4,.int 7,.int 12,.int 13]) (.loc 2))]
noncomputable def jK:List Y:=[.set (.loc 6) (.attr (.loc 0) "kt"),.for_ false [7] (.tup [.str "fields",.str "methods"]) [.set (.loc 8) (.sub (.sub (.loc 2) (.loc 7)) (.loc 3)),.for_ false [9] (.rng1 (.len (.loc 8))) [.set (.loc 10) (.bin .mod (.bin .add (.loc 9) (.loc 4)) (.len (.loc 8))),.set (.loc 11) (.sub (.loc 8) (.ite (.bin .mod (.bin .fdiv (.loc 4) (.int 4)) (.int 2)) (.loc 10) (.bin .sub (.bin .sub (.len (.loc 8)) (.int 1)) (.loc 10)))),.ite (.cmp .eq (.loc 7) (.str "fields")) [.set (.loc 12) (.call "add_field" [.loc 0,.sub (.loc 1) (.loc 3),.sub (.loc 11) (.int 0),.call "_law_kind" [.loc 6,.loc 1,.sub (.loc 11) (.int 1)],.int 6,.int 0])] [.set (.loc 13) (.comp (.call "_law_kind" [.loc 0,.loc 1,.loc 2]) [6,1] false 1 (.sub (.loc 11) (.int 4)) []),.set (.loc 12) (.call "add_method" [.loc 0,.sub (.loc 1) (.loc 3),.sub (.loc 11) (.int 0),.int 6,.sub (.loc 11) (.int 2),.call "_law_kind" [.loc 6,.loc 1,.sub (.loc 11) (.int 3)],.loc 13]),.ex (.call "set_generic" [.loc 0,.loc 12,.slTo (.list [.str "U"]) (.sub (.loc 11) (.int 1)),.list []])],.set (.sub (.loc 5) (.tup [.loc 7,.loc 3,.loc 11])) (.loc 12)]],.set (.attr (.sub (.attr (.loc 0) "types") (.sub (.loc 1) (.loc 3))) "fields") (.comp (.sub (.loc 0) (.tup [.str "fields",.loc 1,.loc 2])) [5,3] false 1 (.sub (.sub (.loc 2) (.str "fields")) (.loc 3)) []),.set (.attr (.sub (.attr (.loc 0) "types") (.sub (.loc 1) (.loc 3))) "methods") (.comp (.sub (.loc 0) (.tup [.str "methods",.loc 1,.loc 2])) [5,3] false 1 (.sub (.sub (.loc 2) (.str "methods")) (.loc 3)) [])]
noncomputable def eU:List Y:=[.set (.loc 4) (.attr (.loc 0) "kt"),.set (.loc 5) (.call "new_asm" [.loc 0,.str "app"]),.set (.loc 6) (.bin .add (.comp (.call "add_type" [.loc 0,.loc 1,.loc 2,.int 1,.int 0,.int 12,.list [.str "T"]]) [0,5] false 1 (.tup [.str "A",.str "B"]) []) (.list [.loc 1])),.set (.loc 7) (.dict 2 [] []),.ex (.call "_law_make" [.loc 0,.loc 6,.loc 2,.int 1,.bin .fdiv (.loc 3) (.int 8),.loc 7]),.ex (.call "_law_make" [.loc 0,.loc 6,.loc 2,.int 0,.loc 3,.loc 7]),.set (.loc 8) (.list []),.for_ true [9,10,11,12] (.sub (.loc 2) (.str "code")) [.set (.loc 13) (.call "_law_kind" [.loc 4,.loc 6,.bin .add (.sub (.str "AB") (.loc 10)) (.loc 11)]),.ite (.cmp .eq (.loc 9) (.str "fields")) [.ex (.lapp (.loc 8) (.tup [.int 123,.tup [.loc 13,.sub (.loc 7) (.tup [.loc 9,.loc 10,.loc 12])]]))] [.ex (.lapp (.loc 8) (.tup [.int 40,.tup [.loc 13,.sub (.loc 7) (.tup [.loc 9,.loc 10,.loc 12]),.bin .mul (.tup [.int 7]) (.sub (.loc 12) (.int 1))]]))]],.ex (.call "set_body" [.loc 0,.sub (.loc 7) (.bin .add (.tup [.str "methods"]) (.sub (.loc 2) (.str "held"))),.tup [],.int 8,.bin .add (.loc 8) (.list [.tup [.int 42,.int 0]]),.list []]),.for_ true [14,11,15] (.sub (.loc 2) (.str "impls")) [.ex (.call "add_impl" [.loc 0,.sub (.loc 6) (.int 0),.sub (.loc 7) (.bin .add (.tup [.str "methods"]) (.loc 14)),.call "_law_kind" [.loc 4,.loc 6,.bin .add (.str "B") (.loc 11)],.sub (.loc 7) (.tup [.str "methods",.int 1,.loc 15])])],.for_ true [16,17,18,19] (.sub (.loc 2) (.str "props")) [.ex (.call "add_prop" [.loc 0,.sub (.loc 6) (.int 0),.loc 16,.call "_law_kind" [.loc 4,.loc 6,.loc 17],.sub (.loc 7) (.bin .add (.tup [.str "methods"]) (.loc 18)),.sub (.loc 7) (.bin .add (.tup [.str "methods"]) (.loc 19)),.tup []])],.for_ true [16,17,18,19] (.sub (.loc 2) (.str "events")) [.ex (.call "add_event" [.loc 0,.sub (.loc 6) (.int 0),.loc 16,.call "_law_kind" [.loc 4,.loc 6,.loc 17],.sub (.loc 7) (.bin .add (.tup [.str "methods"]) (.loc 18)),.sub (.loc 7) (.bin .add (.tup [.str "methods"]) (.loc 19))])],.set (.attr (.sub (.attr (.loc 0) "types") (.sub (.loc 6) (.int 0))) "cctor") (.sub (.loc 7) (.bin .add (.tup [.str "methods"]) (.sub (.sub (.loc 2) (.str "kept")) (.int 0)))),.set (.attr (.sub (.attr (.loc 0) "types") (.sub (.loc 6) (.int 0))) "finaliser") (.sub (.loc 7) (.bin .add (.tup [.str "methods"]) (.sub (.sub (.loc 2) (.str "kept")) (.int 1)))),.ret (.loc 5)]
noncomputable def eT:List Y:=[.set (.loc 1) (.new "Store" []),.ex (.lapp (.attr (.loc 1) "asms") (.str "core")),.set (.attr (.loc 1) "types") (.bin .mul (.list [.none]) (.int 64)),.set (.loc 2) (.call "new_asm" [.loc 1,.str "junk"]),.for_ false [3] (.rng1 (.loc 0)) [.set (.loc 4) (.call "add_type" [.loc 1,.loc 2,.str "A",.int 1,.int 0,.int 12,.list [.str "T"]]),.ex (.call "add_field" [.loc 1,.loc 4,.str "f",.call "array_kind" [.attr (.loc 1) "kt",.call "class_kind" [.attr (.loc 1) "kt",.loc 4,.tup [.int 13]]],.int 6,.int 0]),.ex (.call "add_method" [.loc 1,.loc 4,.str "m",.int 6,.int 0,.int 0,.tup [.call "var_kind" [.attr (.loc 1) "kt",.int 1]]])],.ret (.tup [.loc 1,.call "add_type" [.loc 1,.call "new_asm" [.loc 1,.str "lib"],.str "L",.int 1,.int 0,.int 12,.list []]])]
noncomputable def lK:List Y:=[.ite (.call "_law_draw" [.loc 0,.int 2]) [.ret (.call "same_defs" [.loc 3,.loc 4,.loc 1,.loc 2])] [],.ret (.call "same_defs" [.loc 1,.loc 2,.loc 3,.loc 4])]
noncomputable def jh:List Y:=[.set (.loc 1) (.comp (.bin .mod (.loc 0) (.int 999983)) [] false 1 (.slTo (.loc 0) (.int 40)) []),.ite (.cmp .eq (.len (.loc 1)) (.int 0)) [.set (.loc 1) (.list [.int 0,.int 1,.int 0,.int 0,.int 0,.int 0,.int 0,.int 2,.int 0,.int 0,.int 0,.int 0,.int 0,.int 0,.int 0,.int 3,.int 1,.int 0,.int 0,.int 1,.int 4,.int 0,.int 0,.int 0,.int 0,.int 1,.int 0,.int 0,.int 1,.int 0,.int 0,.int 0,.int 1,.int 0,.int 1,.int 1,.int 2,.int 1,.int 1,.int 0,.int 0]),.set (.loc 1) (.bin .add (.loc 1) (.list [.int 1,.int 0,.int 1,.int 0,.int 2,.int 2,.int 2,.int 1,.int 0,.int 4,.int 0,.int 0,.int 0,.int 1,.int 0,.int 1,.int 0,.int 0,.int 2,.int 0,.int 2,.int 1,.int 0,.int 0,.int 3,.int 0,.int 2,.int 0,.int 0,.int 0,.int 1,.int 1,.int 2])),.set (.loc 1) (.bin .add (.loc 1) (.list [.int 0,.int 1,.int 0,.int 0,.int 1,.int 0,.int 3,.int 2,.int 1,.int 5,.int 22,.int 41,.int 63,.int 0,.int 1,.int 0,.int 1]))] [],.set (.loc 2) (.dict 1 ["nums","at"] [.loc 1,.int 0]),.set (.tup [3,4]) (.call "_law_world" [.int 0]),.set (.tup [5,6]) (.call "_law_world" [.bin .add (.int 1) (.call "_law_draw" [.loc 2,.int 2])]),.set (.loc 7) (.call "_law_described" [.loc 2]),.set (.loc 8) (.call "_law_changed" [.loc 2,.loc 7]),.set (.loc 9) (.call "_law_changed" [.loc 2,.loc 7]),.set (.loc 10) (.call "_law_lay" [.loc 3,.loc 4,.loc 7,.call "_law_draw" [.loc 2,.int 64]]),.set (.loc 11) (.call "_law_lay" [.loc 5,.loc 6,.loc 7,.call "_law_draw" [.loc 2,.int 64]]),.set (.loc 12) (.call "_law_lay" [.loc 5,.loc 6,.loc 8,.call "_law_draw" [.loc 2,.int 64]]),.set (.loc 13) (.call "_law_lay" [.loc 5,.loc 6,.loc 9,.call "_law_draw" [.loc 2,.int 64]]),.ite (.bool false [.not_ (.call "_law_ask" [.loc 2,.loc 3,.loc 10,.loc 5,.loc 11]),.cmp .ne (.call "_law_ask" [.loc 2,.loc 3,.loc 10,.loc 5,.loc 12]) (.call "_law_alike" [.loc 7,.loc 8])]) [.ret (.tt false)] [],.ite (.bool false [.cmp .ne (.call "_law_ask" [.loc 2,.loc 5,.loc 11,.loc 5,.loc 13]) (.call "_law_alike" [.loc 7,.loc 9]),.not_ (.call "same_defs" [.loc 5,.loc 13,.loc 5,.loc 13])]) [.ret (.tt false)] [],.ret (.cmp .eq (.call "_law_ask" [.loc 2,.loc 5,.loc 12,.loc 5,.loc 13]) (.call "_law_alike" [.loc 8,.loc 9]))]
noncomputable def d7:List Y:=[.set (.attr (.loc 0) "rows") (.list []),.set (.attr (.loc 0) "index") (.dict 2 [] []),.set (.attr (.loc 0) "depths") (.list []),.set (.attr (.loc 0) "weights") (.list []),.set (.attr (.loc 0) "opens") (.list []),.for_ false [1] (.rng1 (.gn "PRIM_END")) [.set (.loc 2) (.tup [.gn "R_PRIM",.loc 1]),.ex (.lapp (.attr (.loc 0) "rows") (.loc 2)),.set (.sub (.attr (.loc 0) "index") (.loc 2)) (.loc 1),.ex (.lapp (.attr (.loc 0) "depths") (.int 1)),.ex (.lapp (.attr (.loc 0) "weights") (.int 1)),.ex (.lapp (.attr (.loc 0) "opens") (.int 0))]]
noncomputable def ez:List Y:=[.ite (.bool false [.cmp .lt (.loc 1) (.int 0),.cmp .ge (.loc 1) (.len (.attr (.loc 0) "rows"))]) [.bad] [],.ret (.sub (.attr (.loc 0) "rows") (.loc 1))]
noncomputable def bZ:List Y:=[.set (.loc 2) (.dget (.attr (.loc 0) "index") (.loc 1) (.neg 1)),.ite (.cmp .ge (.loc 2) (.int 0)) [.ret (.loc 2)] [],.ex (.call "check_kind_row" [.loc 0,.loc 1]),.set (.loc 3) (.int 1),.set (.loc 4) (.int 1),.set (.loc 5) (.int 0),.ite (.bool false [.cmp .eq (.sub (.loc 1) (.int 0)) (.gn "R_VAR"),.cmp .eq (.sub (.loc 1) (.int 0)) (.gn "R_MVAR")]) [.set (.loc 5) (.int 1)] [],.set (.loc 6) (.call "row_level" [.sub (.loc 1) (.int 0)]),.for_ false [7] (.call "inner_kinds" [.loc 1]) [.ite (.cmp .gt (.bin .add (.sub (.attr (.loc 0) "depths") (.loc 7)) (.loc 6)) (.loc 3)) [.set (.loc 3) (.bin .add (.sub (.attr (.loc 0) "depths") (.loc 7)) (.loc 6))] [],.aug 4 (.sub (.attr (.loc 0) "weights") (.loc 7)),.ite (.cmp .eq (.sub (.attr (.loc 0) "opens") (.loc 7)) (.int 1)) [.set (.loc 5) (.int 1)] []],.ite (.cmp .gt (.loc 3) (.gn "DEEPEST_KIND")) [.bad] [],.ite (.cmp .gt (.loc 4) (.gn "HEAVIEST_KIND")) [.bad] [],.set (.loc 8) (.len (.attr (.loc 0) "rows")),.ex (.lapp (.attr (.loc 0) "rows") (.loc 1)),.set (.sub (.attr (.loc 0) "index") (.loc 1)) (.loc 8),.ex (.lapp (.attr (.loc 0) "depths") (.loc 3)),.ex (.lapp (.attr (.loc 0) "weights") (.loc 4)),.ex (.lapp (.attr (.loc 0) "opens") (.loc 5)),.ret (.loc 8)]
noncomputable def c9:List Y:=[.set (.attr (.loc 0) "tid") (.loc 1),.set (.attr (.loc 0) "name") (.loc 2),.set (.attr (.loc 0) "sort") (.loc 3),.set (.attr (.loc 0) "flags") (.loc 4),.set (.attr (.loc 0) "base") (.loc 5),.set (.attr (.loc 0) "ifaces") (.list []),.set (.attr (.loc 0) "params") (.list []),.set (.attr (.loc 0) "variances") (.list []),.set (.attr (.loc 0) "bounds") (.list []),.for_ false [8] (.loc 6) [.ex (.lapp (.attr (.loc 0) "params") (.loc 8)),.ex (.lapp (.attr (.loc 0) "variances") (.gn "VA_NONE")),.ex (.lapp (.attr (.loc 0) "bounds") (.tup [.int 0,.tup []]))],.set (.attr (.loc 0) "fields") (.list []),.set (.attr (.loc 0) "methods") (.list []),.set (.attr (.loc 0) "asm") (.loc 7),.set (.attr (.loc 0) "cctor") (.int 0),.set (.attr (.loc 0) "under") (.neg 1),.set (.attr (.loc 0) "impls") (.list []),.set (.attr (.loc 0) "props") (.list []),.set (.attr (.loc 0) "events") (.list []),.set (.attr (.loc 0) "finaliser") (.int 0),.set (.attr (.loc 0) "home") (.int 0)]
noncomputable def eB:List Y:=[.set (.attr (.loc 0) "fid") (.loc 1),.set (.attr (.loc 0) "owner") (.loc 2),.set (.attr (.loc 0) "name") (.loc 3),.set (.attr (.loc 0) "kind") (.loc 4),.set (.attr (.loc 0) "access") (.loc 5),.set (.attr (.loc 0) "flags") (.loc 6),.set (.attr (.loc 0) "value") (.none)]
noncomputable def d6:List Y:=[.set (.attr (.loc 0) "mid") (.loc 1),.set (.attr (.loc 0) "owner") (.loc 2),.set (.attr (.loc 0) "name") (.loc 3),.set (.attr (.loc 0) "access") (.loc 4),.set (.attr (.loc 0) "flags") (.loc 5),.set (.attr (.loc 0) "ngen") (.int 0),.set (.attr (.loc 0) "gnames") (.list []),.set (.attr (.loc 0) "gbounds") (.list []),.set (.attr (.loc 0) "ret") (.loc 6),.set (.attr (.loc 0) "params") (.tupleOf (.loc 7)),.set (.attr (.loc 0) "pnames") (.call "plain_names" [.len (.loc 7)]),.set (.attr (.loc 0) "pflags") (.bin .mul (.tup [.int 0]) (.len (.loc 7))),.set (.attr (.loc 0) "body") (.none),.set (.attr (.loc 0) "native") (.int 0)]
noncomputable def iR:List Y:=[.set (.attr (.loc 0) "locals_") (.loc 1),.set (.attr (.loc 0) "maxstack") (.loc 2),.set (.attr (.loc 0) "code") (.loc 3),.set (.attr (.loc 0) "clauses") (.loc 4)]
noncomputable def gP:List Y:=[.set (.attr (.loc 0) "kt") (.new "KindTable" []),.set (.attr (.loc 0) "types") (.list [.none]),.set (.attr (.loc 0) "fields_") (.list [.none]),.set (.attr (.loc 0) "methods") (.list [.none]),.set (.attr (.loc 0) "names") (.dict 2 [] []),.set (.attr (.loc 0) "asms") (.list []),.set (.attr (.loc 0) "entry") (.int 0)]
noncomputable def gR:List Y:=[.set (.attr (.loc 0) "store") (.loc 1),.set (.attr (.loc 0) "places") (.dict 0 [] []),.for_ false [4] (.rng1 (.len (.loc 2))) [.set (.sub (.attr (.loc 0) "places") (.sub (.loc 2) (.loc 4))) (.loc 4)],.set (.attr (.loc 0) "index") (.loc 3),.set (.attr (.loc 0) "known") (.dict 0 [] [])]
noncomputable def gQ:List Y:=[.ite (.cmp .notin (.loc 1) (.attr (.loc 0) "known")) [.ex (.call "learn_kind" [.loc 0,.loc 1])] [],.ret (.sub (.attr (.loc 0) "known") (.loc 1))]
noncomputable def fW:List Y:=[.ret (.tupleOf (.comp (.meth (.loc 0) "kind" [.loc 1]) [0] false 1 (.loc 1) []))]
noncomputable def uA:List (Fn×List String×List String×List Y):=[
 (.g "inner_kinds",["row"],["row","sort"],fU),
 (.g "row_level",["sort"],["sort"],iH),
 (.g "row_length",["sort"],["sort"],gE),
 (.g "check_kind_row",["kt","row"],["kt","row","sort","inner"],d5),
 (.g "check_named",["kt","row"],["kt","row"],fV),
 (.g "check_args",["kt","args"],["kt","args","arg"],gL),
 (.g "may_stand",["kt","k"],["kt","k","sort"],iJ),
 (.g "class_kind",["kt","tid","args"],["kt","tid","args"],gK),
 (.g "prim_kind",["tid","args"],["tid","args"],oT),
 (.g "array_kind",["kt","elem"],["kt","elem"],gN),
 (.g "var_kind",["kt","i"],["kt","i"],jD),
 (.g "is_value",["kt","k"],["kt","k"],rG),
 (.g "is_var",["kt","k"],["kt","k","sort"],nM),
 (.g "op_sort",["op"],["op"],lH),
 (.g "plain_names",["count"],["count","out","place"],fK),
 (.g "new_asm",["store","name"],["store","name"],lI),
 (.g "usual_base",["store","sort"],["store","sort"],mt),
 (.g "sort_flags",["sort","flags"],["sort","flags"],gD),
 (.g "add_type",["store","asm","name","sort","flags","base","params"],["store","asm","name","sort","flags","base","params","tid","key"],jO),
 (.g "add_field",["store","tid","name","kind","access","flags"],["store","tid","name","kind","access","flags","t","fid"],iP),
 (.g "kept_flags",["flags"],["flags"],gH),
 (.g "add_method",["store","tid","name","access","flags","ret","params"],["store","tid","name","access","flags","ret","params","t","mid"],gO),
 (.g "note_method",["store","mid"],["store","mid","m","t"],fL),
 (.g "set_generic",["store","mid","gnames","gbounds"],["store","mid","gnames","gbounds","m","place"],fJ),
 (.g "set_body",["store","mid","locals_","maxstack","code","clauses"],["store","mid","locals_","maxstack","code","clauses","rows","ins","edges","clause"],jF),
 (.g "put_once",["rows","row"],["rows","row"],jG),
 (.g "add_impl",["store","tid","body_mid","decl_owner","decl_mid"],["store","tid","body_mid","decl_owner","decl_mid"],jQ),
 (.g "add_prop",["store","tid","name","kind","getter","setter","index_kinds"],["store","tid","name","kind","getter","setter","index_kinds"],jP),
 (.g "add_event",["store","tid","name","kind","adder","remover"],["store","tid","name","kind","adder","remover"],iQ),
 (.g "is_virtual",["m"],["m"],mu),
 (.g "same_defs",["store1","asm1","store2","asm2"],["store1","asm1","store2","asm2","own1","own2","index","paths1","paths2","place"],iG),
 (.g "asm_name",["store","asm"],["store","asm"],jN),
 (.g "own_types",["store","asm"],["store","asm"],iI),
 (.g "standing",["rows","n","word"],["rows","n","word"],jE),
 (.g "type_path",["paths","tid"],["paths","tid","t","out"],iF),
 (.g "learn_kind",["paths","k"],["paths","k","todo","at","inner","path"],gG),
 (.g "path_parts",["paths","k"],["paths","k"],gF),
 (.g "kind_path",["paths","k"],["paths","k","row"],iN),
 (.g "method_path",["paths","mref"],["paths","mref","owner","mid","margs"],fO),
 (.g "method_name",["paths","mid"],["paths","mid","m"],fP),
 (.g "field_path",["paths","fref"],["paths","fref","f"],gJ),
 (.g "member_name",["paths","mid"],["paths","mid","m","owner"],fQ),
 (.g "bound_rows",["paths","bounds"],["paths","bounds"],gM),
 (.g "type_told",["paths","tid"],["paths","tid","t","head","generic","fields","methods","impls","props","events","laid"],iE),
 (.g "field_told",["paths","fid"],["paths","fid","f"],gI),
 (.g "method_told",["paths","mid"],["paths","mid","m","head","sig"],fM),
 (.g "body_told",["paths","body"],["paths","body","deep","code","clauses"],iO),
 (.g "clause_path",["paths","row"],["paths","row"],lL),
 (.g "operand_path",["paths","sort","operand"],["paths","sort","operand"],eY),
 (.g "_law_draw",["w","n"],["w","n","nums","i","k"],jM),
 (.g "_law_members",["w","menu","words","many"],["w","menu","words","many","first","stride","out","j","name","row"],fR),
 (.g "_law_one",["w","d"],["w","d","t","rows"],lJ),
 (.g "_law_described",["w"],["w","d","t","sort","row","j","of","rows","term"],bY),
 (.g "_law_swap",["w","rows"],["w","rows","i","j","row"],jH),
 (.g "_law_next",["w","rows","member"],["w","rows","member"],jJ),
 (.g "_law_moved",["w","d","sort","t","member"],["w","d","sort","t","member"],iL),
 (.g "_law_other",["w","d","one"],["w","d","one"],iK),
 (.g "_law_turn",["w","d","way"],["w","d","way","at","sort","t","arg","member","body","of","rows","name","term","one","two"],d4),
 (.g "_law_changed",["w","d"],["w","d","c","key","j"],fS),
 (.g "_law_once",["rows"],["rows","out","row"],jI),
 (.g "_law_alike",["c","d"],["c","d","key"],iM),
 (.g "_law_kind",["kt","own","term"],["kt","own","term"],jL),
 (.g "_law_make",["store","own","d","t","turn","numbers"],["store","own","d","t","turn","numbers","kt","sort","rows","i","at","row","number","params"],jK),
 (.g "_law_lay",["store","lib","d","turn"],["store","lib","d","turn","kt","app","own","numbers","code","sort","t","arg","member","owner","body","of","name","term","one","two"],eU),
 (.g "_law_world",["junk"],["junk","store","asm","j","tid"],eT),
 (.g "_law_ask",["w","a","x","b","y"],["w","a","x","b","y"],lK),
 (.g "law",["script"],["script","nums","w","a","lib_a","b","lib_b","d","third","fourth","x","y","u","v"],jh),
 (.m "KindTable" "__init__",["self"],["self","number","row"],d7),
 (.m "KindTable" "row",["self","k"],["self","k"],ez),
 (.m "KindTable" "put",["self","row"],["self","row","found","depth","weight","opened","level","inner","k"],bZ),
 (.m "TypeDef" "__init__",["self","tid","name","sort","flags","base","params","asm"],["self","tid","name","sort","flags","base","params","asm","word"],c9),
 (.m "FieldDef" "__init__",["self","fid","owner","name","kind","access","flags"],["self","fid","owner","name","kind","access","flags"],eB),
 (.m "MethodDef" "__init__",["self","mid","owner","name","access","flags","ret","params"],["self","mid","owner","name","access","flags","ret","params"],d6),
 (.m "Body" "__init__",["self","locals_","maxstack","code","clauses"],["self","locals_","maxstack","code","clauses"],iR),
 (.m "Store" "__init__",["self"],["self"],gP),
 (.m "Paths" "__init__",["self","store","own","index"],["self","store","own","index","place"],gR),
 (.m "Paths" "kind",["self","k"],["self","k"],gQ),
 (.m "Paths" "kinds",["self","ks"],["self","ks"],fW)
]
noncomputable def oE:List (Fn×List String×List String×List Y)→Fn→Option (List String×List String×List Y)
 |[],_=>none
 |(k,v)::l,f=>if k=f then some v else oE l f
noncomputable def ag (f:Fn):Option (List String×List String×List Y):=oE uA f
noncomputable def FW:Nat→ak
 |0=>λ yy yy yy yy=>False
 |d+1=>λ f vs σ Q=>match ag f with
  |some (ps,lv,ys)=>vs.length=ps.length∧ah (FW d) ys (vs.map some++List.replicate (lv.length - ps.length) none) σ λ o yy σ'=>Q (cp o) σ'
  |none=>False
theorem sq:∃r:Nat→ak,(∀f vs σ Q,r 0 f vs σ Q=False)∧∀d f vs σ Q,r (d+1) f vs σ Q=(match ag f with
  |some (ps,lv,ys)=>vs.length=ps.length∧ah (r d) ys (vs.map some++List.replicate (lv.length - ps.length) none) σ λ o yy σ'=>Q (cp o) σ'
  |none=>False):=⟨FW,λ yy yy yy yy=>rfl,λ yy yy yy yy yy=>rfl⟩
noncomputable def aw:Nat→ak:=Classical.choose sq
theorem FU (f:Fn) (vs:List V) (σ:St) (Q:V→St→Prop):aw 0 f vs σ Q=False:=(Classical.choose_spec sq).1 f vs σ Q
theorem As (d:Nat) (f:Fn) (vs:List V) (σ:St) (Q:V→St→Prop):aw (d+1) f vs σ Q=(match ag f with
  |some (ps,lv,ys)=>vs.length=ps.length∧ah (aw d) ys (vs.map some++List.replicate (lv.length - ps.length) none) σ λ o yy σ'=>Q (cp o) σ'
  |none=>False):=(Classical.choose_spec sq).2 d f vs σ Q
noncomputable def wC (B:Bx) (v:Value):Option Addr:=(wB v).bind λ f=>if (isFn B.K (.ref f) && keepIn B.K (.ref f))=true then some f else none
noncomputable def cR (B:Bx):Fn→Option Addr
 | .g n=>(nsIn B.K mainGlobals (Str.ofString n)).bind λ v=>v.bind (wC B)
 | .m c n=>(jw B.K c).bind λ C=>(findIn B.K (.ref C) (Str.ofString n)).bind λ v=>v.bind (wC B)
theorem pR {B:Bx} {v:Value} {f:Addr} (h:wC B v=some f):v=.ref f∧isFn B.K (.ref f)=true∧keepIn B.K (.ref f)=true:=
 (jg h).elim λ g h=>by
  have k:=h.2
  cases e:isFn B.K (.ref g) && keepIn B.K (.ref g) with
  |true=>rw [e] at k;cases k;exact ⟨pQ h.1,J6.mp e⟩
  |false=>rw [e] at k;cases k
theorem lg {B:Bx} {n:String} {f:Addr} (h:cR B (.g n)=some f):nsIn B.K mainGlobals (Str.ofString n)=some (some (.ref f))∧isFn B.K (.ref f)=true∧keepIn B.K (.ref f)=true:=
 (jg h).elim λ yy h=>(jg h.2).elim λ yy k=>have r:=pR k.2;⟨h.1.trans (congrArg some (k.1.trans (congrArg some r.1))),r.2⟩
theorem k9 {B:Bx} {c n:String} {f:Addr} (h:cR B (.m c n)=some f):∃C,jw B.K c=some C∧findIn B.K (.ref C) (Str.ofString n)=some (some (.ref f))∧isFn B.K (.ref f)=true∧keepIn B.K (.ref f)=true:=
 (jg h).elim λ C h=>(jg h.2).elim λ yy k=>(jg k.2).elim λ yy l=>have r:=pR l.2;⟨C,h.1,k.1.trans (congrArg some (l.1.trans (congrArg some r.1))),r.2⟩
noncomputable def j3 (B:Bx) (d:Nat):ak:=λ f vs σ Q=>∃fa,cR B f=some fa∧
 ∀(c:Cx) (m:Str→Option Value) (φ:bh) (nw:ad) (s:Shared) (A:Around) (us:List Value),aJ B c A d→aC B c m σ φ nw s→bC B φ nw vs us→
  codeAny (model B.prog B.w) A (.call (.ref fa) ⟨us,[]⟩) (λ r s'=>match r with| .ok (.ret u)=>aq B c m φ nw Q u s'|_=>False) s
noncomputable def j9:List String:=["inner_kinds","row_level","row_length","check_kind_row","check_named","check_args","may_stand","class_kind","prim_kind","array_kind","var_kind","is_value","is_var","op_sort","plain_names","new_asm","usual_base","sort_flags","add_type","add_field","kept_flags","add_method","note_method","set_generic","set_body","put_once","add_impl","add_prop","add_event","is_virtual","same_defs","asm_name","own_types","standing","type_path","learn_kind","path_parts","kind_path","method_path","method_name","field_path","member_name","bound_rows","type_told","field_told","method_told","body_told","clause_path","operand_path","_law_draw","_law_members","_law_one","_law_described","_law_swap","_law_next","_law_moved","_law_other","_law_turn","_law_changed","_law_once","_law_alike","_law_kind","_law_make","_law_lay","_law_world","_law_ask","law"]
noncomputable def dn:List (String×Value):=[("len",.builtin "len"),("range",.type "range"),("tuple",.type "tuple"),("str",.type "str")]
structure bA (B:Bx):Prop extends BxOk B where
 glob:∀n v,G n=some v→∃u,nsIn B.K mainGlobals (Str.ofString n)=some (some u)∧∀φ nw,VR B φ nw v u
 fns:∀n∈j9,∃fa,cR B (.g n)=some fa
 mts:∀c n,(c,n)∈mzz→∃fa,cR B (.m c n)=some fa
 inits:∀c∈cI,∃fa,cR B (.m c "__init__")=some fa
 bi:∀n v,(n,v)∈dn→nsIn B.K mainGlobals (Str.ofString n)=some none∧bootBuiltins (Str.ofString n)=some v∧Str.ofString n≠"__name__"
inductive gT (c:Cx) (m:Str→Option Value) (φ:bh) (nw:ad) (env:Env) (n:Str) (u:Value):Prop
 |loc:env.kindOf n=some .local→env.locals=c.L→m n=some u→gT c m φ nw env n u
 |own {o:Obj} {lk:Str→Option Value}:env.kindOf n=some .local→(env.locals,o)∈nw→env.locals∉aB φ→(∀h:Heap,h.get? env.locals=some o→h.Ns env.locals lk)→(∀vs k,o≠am vs k)→lk n=some u→gT c m φ nw env n u
 |cell {a:Addr} {o:Obj}:env.kindOf n=some .cell→env.cells.lookup n=some a→(a,o)∈nw→a∉aB φ→o.data=.cell (some u)→gT c m φ nw env n u
 |free {a:Addr} {o:Obj}:env.kindOf n=some .free→env.cells.lookup n=some a→(a,o)∈nw→a∉aB φ→o.data=.cell (some u)→(n==("__classdict__":Str))=false→gT c m φ nw env n u
structure bV (B:Bx) (c:Cx) (m:Str→Option Value) (φ:bh) (nw:ad) (env:Env) (names:List (Str×NameKind)) (vars:List Str) (ρ:ax):Prop where
 kind:env.scope.kind=.function
 nm:env.scope.names=names
 glob:env.globals=mainGlobals
 bi:env.builtins=builtinsNs
 cl:∀n,names.lookup n=some .cell→∃a,env.cells.lookup n=some a
 at_:∀(i:Nat) (n:Str) (v:V),vars[i]? =some n→bK ρ i=some v→∃u,VR B φ nw v u∧gT c m φ nw env n u
section
variable {B:Bx} {c:Cx} {m:Str→Option Value} {σ:St} {φ:bh} {nw:ad} {s:Shared} {A:Around} {d:Nat} {E:Value→Shared→Prop} {env:Env} {names:List (Str×NameKind)} {vars:List Str} {ρ:ax}
theorem bI.offs {φ':bh} {nw':ad} (X:bI φ nw φ' nw') {a:Addr} {o:Obj} (hm:(a,o)∈nw) (hn:a∉aB φ):(a,o)∈nw'∧a∉aB φ':=
 ⟨X.kept _ hm hn,λ ha=>(X.fresh _ ha).elim hn λ q=>q (Ke (f:=(·.1)) hm)⟩
theorem gT.map {φ':bh} {nw':ad} {n:Str} {u:Value} (h:gT c m φ nw env n u) (k:∀a o,(a,o)∈nw→a∉aB φ→(a=env.locals∨∃x,o.data=.cell x)→(a,o)∈nw'∧a∉aB φ'):gT c m φ' nw' env n u:=by
 cases h with
 |loc h1 h2 h3=>exact .loc h1 h2 h3
 |own h1 h2 h3 h4 h5 h6=>exact have z:=k _ _ h2 h3 (.inl rfl);.own h1 z.1 z.2 h4 h5 h6
 |cell h1 h2 h3 h4 h5=>exact have z:=k _ _ h3 h4 (.inr ⟨_,h5⟩);.cell h1 h2 z.1 z.2 h5
 |free h1 h2 h3 h4 h5 h6=>exact have z:=k _ _ h3 h4 (.inr ⟨_,h5⟩);.free h1 h2 z.1 z.2 h5 h6
theorem bV.map {φ':bh} {nw':ad} (h:bV B c m φ nw env names vars ρ) (hp:φ<+:φ') (ht:∀a vs n,(a,am vs n)∈nw→(a,am vs n)∈nw') (k:∀a o,(a,o)∈nw→a∉aB φ→(a=env.locals∨∃x,o.data=.cell x)→(a,o)∈nw'∧a∉aB φ'):bV B c m φ' nw' env names vars ρ:=
 ⟨h.kind,h.nm,h.glob,h.bi,h.cl,λ i n v hn hv=>(h.at_ i n v hn hv).imp λ u x=>⟨x.1.mono' hp ht,x.2.map k⟩⟩
theorem bV.monoT {φ':bh} {nw':ad} (h:bV B c m φ nw env names vars ρ) (ht:∀a vs n,(a,am vs n)∈nw→(a,am vs n)∈nw') (X:bI φ nw φ' nw'):bV B c m φ' nw' env names vars ρ:=
 h.map X.pre ht λ yy yy hm hn yy=>X.offs hm hn
theorem bV.mono {φ':bh} {nw':ad} (h:bV B c m φ nw env names vars ρ) (R:fY B σ φ nw) (X:bI φ nw φ' nw'):bV B c m φ' nw' env names vars ρ:=h.monoT (X.tups R) X
theorem xl {id:Str} {u:Value} {Q:Value→Shared→Prop} (W:aC B c m σ φ nw s) (V₀:bV B c m φ nw env names vars ρ) (r:gT c m φ nw env id u) (q:Q u s):wpAny (model B.prog B.w) A (loadName env id) Q E s:=by
 cases r with
 |loc h1 h2 h3=>exact wpAny_loadName_local V₀.kind h1 (h2▸W.F.ns) h3 q
 |own h1 h2 h3 h4 h5 h6=>exact wpAny_loadName_local V₀.kind h1 (h4 _ (W.inN h2)) h6 q
 |cell h1 h2 h3 h4 h5=>exact wpAny_loadName_cell V₀.kind h1 h2 ⟨_,W.inN h3,h5⟩ q
 |free h1 h2 h3 h4 h5 h6=>exact wpAny_loadName_free V₀.kind h1 h2 ⟨_,W.inN h3,h5⟩ q h6
theorem GK {id:Str} {pos:Pos} {i:Nat} {v:V} {Q:V→St→Prop} (W:aC B c m σ φ nw s) (V₀:bV B c m φ nw env names vars ρ) (hn:vars[i]? =some id) (hd:(id==("__debug__":Str))=false)
  (hv:bK ρ i=some v) (q:Q v σ):wpAny (model B.prog B.w) A (eval (.Name id pos) env) (aq B c m φ nw Q) E s:=
 (V₀.at_ i id v hn hv).elim λ u x=>wpAny_Name (xl W V₀ x.2 (aq.of q x.1 W)) hd
theorem bb (V₀:bV B c m φ nw env names vars ρ) (x:Str):env.kindOf x=names.lookup x:=by
 unfold Env.kindOf;rw [V₀.nm]
theorem sT {id:Str} {pos:Pos} {u:Value} {Q:Value→Shared→Prop} (K:aJ B c A d) (W:aC B c m σ φ nw s) (V₀:bV B c m φ nw env names vars ρ) (hg:names.lookup id=some .globalImplicit) (hd:(id==("__debug__":Str))=false)
  (e:nsIn B.K mainGlobals id=some (some u)) (q:Q u s):wpAny (model B.prog B.w) A (eval (.Name id pos) env) Q E s:=
 Name_function_global V₀.kind ((bb V₀ id).trans hg) (loadGlobal_global (env:=env) (by rw [V₀.glob];exact K.T.g.keeps W.F.keep) (mg_of K.X K.T.g e) q) hd
theorem vz {id:Str} {pos:Pos} {u:Value} {Q:Value→Shared→Prop} (K:aJ B c A d) (W:aC B c m σ φ nw s) (V₀:bV B c m φ nw env names vars ρ) (hg:names.lookup id=some .globalImplicit) (hd:(id==("__debug__":Str))=false)
  (e:nsIn B.K mainGlobals id=some none) (hb:bootBuiltins id=some u) (hn:id≠"__name__") (q:Q u s):wpAny (model B.prog B.w) A (eval (.Name id pos) env) Q E s:=
 Name_function_global V₀.kind ((bb V₀ id).trans hg)
  (loadGlobal_builtin (env:=env) (by rw [V₀.glob];exact K.T.g.keeps W.F.keep) (mg_none_of K.X K.T.g e) (by rw [V₀.bi];exact K.T.b.keeps W.F.keep) ((K.T.builtins id hn).trans hb) q) hd
end
section
variable {B:Bx} {c:Cx} {m:Str→Option Value} {φ:bh} {nw:ad} {s':Shared} {P:Prop}
theorem aq.use {Q:V→St→Prop} {u:Value} (h:aq B c m φ nw Q u s') (k:∀v σ' φ' nw',Q v σ'→VR B φ' nw' v u→aC B c m σ' φ' nw' s'→bI φ nw φ' nw'→P):P:=
 h.elim λ v h=>h.elim λ σ' h=>h.elim λ φ' h=>h.elim λ nw' h=>k v σ' φ' nw' h.1 h.2.1 h.2.2.1 h.2.2.2
theorem bf.use {Q:Bool→St→Prop} {b:Bool} (h:bf B c m φ nw Q b s') (k:∀σ' φ' nw',Q b σ'→aC B c m σ' φ' nw' s'→bI φ nw φ' nw'→P):P:=
 h.elim λ σ' h=>h.elim λ φ' h=>h.elim λ nw' h=>k σ' φ' nw' h.1 h.2.1 h.2.2
end
structure Sc where
 names:List (Str×NameKind)
 vars:List Str
structure Fx where
 c:Cx
 m:Str→Option Value
 A:Around
 env:Env
 ρ:ax
structure Wd where
 σ:St
 φ:bh
 nw:ad
 s:Shared
structure Ok (B:Bx) (d:Nat) (sc:Sc) (f:Fx) (w:Wd):Prop where
 K:aJ B f.c f.A (d+1)
 W:aC B f.c f.m w.σ w.φ w.nw w.s
 ev:bV B f.c f.m w.φ w.nw f.env sc.names sc.vars f.ρ
noncomputable abbrev Wd.le (w w':Wd):Prop:=bI w.φ w.nw w'.φ w'.nw
noncomputable abbrev PV (B:Bx) (f:Fx) (w:Wd) (Q:V→St→Prop):Value→Shared→Prop:=aq B f.c f.m w.φ w.nw Q
noncomputable abbrev PB (B:Bx) (f:Fx) (w:Wd) (Q:Bool→St→Prop):Bool→Shared→Prop:=bf B f.c f.m w.φ w.nw Q
noncomputable abbrev PS (B:Bx) (f:Fx) (w:Wd) (Q:List V→St→Prop):List Value→Shared→Prop:=HA B f.c f.m w.φ w.nw Q
noncomputable def PI (B:Bx) (f:Fx) (w:Wd) (Q:List V→(St→Prop)→St→Prop) (r:Value) (s₂:Shared):Prop:=
 ∃I o l guard src w',r=.ref I∧Q l guard w'.σ∧I∉w'.nw.map (·.1)∧aC B f.c f.m w'.σ w'.φ ((I,o)::w'.nw) s₂∧iU B w'.φ ((I,o)::w'.nw) 0 o src∧(∀σ'',guard σ''→jR σ'' l src)∧w.le w'
section
variable (B:Bx) (C:ak) (d:Nat) (sc:Sc)
noncomputable def bk (x:X) (e:Expr):Prop:=∀f w Q E,Ok B d sc f w→aH C x f.ρ w.σ Q→wpAny (model B.prog B.w) f.A (eval e f.env) (PV B f w Q) E w.s
noncomputable def lU (l:List X) (es:List Expr):Prop:=∀f w Q E pos,Ok B d sc f w→aI C l f.ρ w.σ Q→wpAny (model B.prog B.w) f.A (spliced (backTo pos (starEach es f.env))) (PS B f w λ vs σ'=>vs.length=l.length∧Q vs σ') E w.s
noncomputable def HH (k:Bool) (l:List X) (es:List Expr):Prop:=∀f w Q E pos,Ok B d sc f w→lG C k l f.ρ w.σ Q→wpAny (model B.prog B.w) f.A (boolOp pos (if k then .And else .Or) (evalEach es f.env)) (PV B f w Q) E w.s
noncomputable def yH (x:X) (e:Expr):Prop:=∀f w Q E,Ok B d sc f w→fe C x f.ρ w.σ Q→wpAny (model B.prog B.w) f.A (isTrue e f.env (eval e f.env)) (PB B f w Q) E w.s
noncomputable def HI (k:Bool) (l:List X) (es:List Expr):Prop:=∀f w Q E,Ok B d sc f w→mK C k l f.ρ w.σ Q→wpAny (model B.prog B.w) f.A (allTrue (if k then .And else .Or) es f.env) (PB B f w Q) E w.s
noncomputable def Ah (x:X) (e:Expr):Prop:=∀f w Q E,Ok B d sc f w→vf C x f.ρ w.σ Q→wpAny (model B.prog B.w) f.A (eval e f.env) (λ u s₁=>wpAny (model B.prog B.w) f.A (pyIter u) (PI B f w Q) E s₁) E w.s
noncomputable def EL (l:List X) (es:List Expr):Prop:=∀f w Q E,Ok B d sc f w→jc C l f.ρ w.σ Q→
  wpAny (model B.prog B.w) f.A (forIn es true λ c r=>if r=true then do let ok←isTrue c f.env (eval c f.env);pure (ForInStep.yield ok) else pure (ForInStep.yield r)) (PB B f w Q) E w.s
end
noncomputable def ar (e:Expr):Bool:=!Nat.beq e.ctorIdx 22
noncomputable def ii (e:Expr):Bool:=!Nat.beq e.ctorIdx 26
noncomputable def db (e:Expr):Bool:=!Nat.beq e.ctorIdx 16
theorem dT {e:Expr} (h:ar e=true):∀(rest:List Expr) (env:Env),starEach (e::rest) env=(false,eval e env)::starEach rest env:=by
 cases e with
 |Starred=>cases h
 |_=>exact λ yy yy=>rfl
theorem hJ {env:Env} {pos:Pos}:∀{es:List Expr},es.all ar=true→(backTo pos (starEach es env)).any (·.1)=false
 |[],_=>rfl
 |e::es,h=>by
  have h:=J6.mp (show (ar e && es.all ar)=true from h)
  rw [dT h.1];exact hJ h.2
section
variable {M:Model} {A:Around} {E:Value→Shared→Prop} {s:Shared} {env:Env}
theorem lh {f:Value} {es:List Expr} {pos:Pos} {Q:Args→Shared→Prop} (h:es.all ar=true) (q:wpAny M A (spliced (backTo pos (starEach es env))) (λ vs s'=>Q ⟨vs,[]⟩ s') E s):
  wpAny M A (evalArgs f true (backTo pos (starEach es env)) []) Q E s:=by
 cases es with
 |nil=>
  unfold evalArgs
  refine JX (m:=spliced []) (Kn q (λ vs s' h'=>?_) λ yy yy x=>x)
  exact JX (J7 (Kq (JX (J7 (JX (J7 (J7 h')))))))
 |cons e es=>
  have h:=J6.mp (show (ar e && es.all ar)=true from h)
  rw [dT h.1] at q ⊢
  exact evalArgs_plain q
end
section
variable {B:Bx} {C:ak} {d:Nat} {sc:Sc} {f:Fx} {w:Wd} {E:Value→Shared→Prop}
theorem Ok.seqV {s:Shared} {t:Sem Value} {Q:V→St→Prop} {R:Value→Shared→Prop} (o:Ok B d sc f w) (h:wpAny (model B.prog B.w) f.A t (PV B f w Q) E s)
  (k:∀v w' u,Q v w'.σ→VR B w'.φ w'.nw v u→Ok B d sc f w'→w.le w'→R u w'.s):wpAny (model B.prog B.w) f.A t R E s:=
 Kn h (λ yy s' h=>h.use λ v σ' φ' nw' q x W X=>k v ⟨σ',φ',nw',s'⟩ _ q x ⟨o.K,W,o.ev.mono o.W.R X⟩ X) λ yy yy e=>e
theorem Ok.seqS {s:Shared} {t:Sem (List Value)} {Q:List V→St→Prop} {R:List Value→Shared→Prop} (o:Ok B d sc f w) (h:wpAny (model B.prog B.w) f.A t (PS B f w Q) E s)
  (k:∀v w' u,Q v w'.σ→bC B w'.φ w'.nw v u→Ok B d sc f w'→w.le w'→R u w'.s):wpAny (model B.prog B.w) f.A t R E s:=
 Kn h (λ yy s' h=>h.elim λ v h=>h.elim λ σ' h=>h.elim λ φ' h=>h.elim λ nw' h=>k v ⟨σ',φ',nw',s'⟩ _ h.1 h.2.1 ⟨o.K,h.2.2.1,o.ev.mono o.W.R h.2.2.2⟩ h.2.2.2) λ yy yy e=>e
theorem Ok.seqB {s:Shared} {t:Sem Bool} {Q:Bool→St→Prop} {R:Bool→Shared→Prop} (o:Ok B d sc f w) (h:wpAny (model B.prog B.w) f.A t (PB B f w Q) E s)
  (k:∀b w',Q b w'.σ→Ok B d sc f w'→w.le w'→R b w'.s):wpAny (model B.prog B.w) f.A t R E s:=
 Kn h (λ b s' h=>h.use λ σ' φ' nw' q W X=>k b ⟨σ',φ',nw',s'⟩ q ⟨o.K,W,o.ev.mono o.W.R X⟩ X) λ yy yy e=>e
theorem rZ {t:Sem Value} {A:Around} {s:Shared} {w':Wd} {Q:V→St→Prop} (X:w.le w') (h:wpAny (model B.prog B.w) A t (PV B f w' Q) E s):wpAny (model B.prog B.w) A t (PV B f w Q) E s:=
 Kn h (λ yy yy p=>p.trans X) λ yy yy e=>e
theorem HT {t:Sem Bool} {A:Around} {s:Shared} {w':Wd} {Q:Bool→St→Prop} (X:w.le w') (h:wpAny (model B.prog B.w) A t (PB B f w' Q) E s):wpAny (model B.prog B.w) A t (PB B f w Q) E s:=
 Kn h (λ yy yy p=>p.trans X) λ yy yy e=>e
theorem eP {fv:Value} {first:List Value} {es:List Expr} {pos:Pos} {l:List X} {Q:List V→St→Prop} {Q':Value→Shared→Prop} (hX:lU B C d sc l es) (hp:es.all ar=true) (o:Ok B d sc f w)
  (hk:∀h,B.K.In h→∃k,(k=Keeper.frame∨k=Keeper.machine∨k=Keeper.boundFrame)∧Looks (model B.prog B.w) h (keeperOf fv) k) (q:aI C l f.ρ w.σ Q)
  (h:∀vs w' us,vs.length=l.length→Q vs w'.σ→bC B w'.φ w'.nw vs us→Ok B d sc f w'→w.le w'→wpAny (model B.prog B.w) f.A (call fv (first++us)) Q' E w'.s):
  wpAny (model B.prog B.w) f.A (callWith pos fv first (backTo pos (starEach es f.env)) []) Q' E w.s:=
 callWith_of (P:=B.K.In) (Lr.mpr ⟨hJ hp,rfl⟩) hk (lh hp (o.seqS (hX f w Q E pos o q) λ vs w' us q x o' X=>⟨o'.W.X o.K,h vs w' us q.1 q.2 x o' X⟩))
theorem iq (B:Bx) (id:String) (h:Heap):∃k,(k=Keeper.frame∨k=Keeper.machine∨k=Keeper.boundFrame)∧Looks (model B.prog B.w) h (keeperOf (.builtin id)) k:=⟨.machine,.inr (.inl rfl),Looks.of_pure rfl⟩
theorem gm (B:Bx) (id:String) (h:Heap):∃k,(k=Keeper.frame∨k=Keeper.machine∨k=Keeper.boundFrame)∧Looks (model B.prog B.w) h (keeperOf (.type id)) k:=⟨.machine,.inr (.inl rfl),Looks.of_pure rfl⟩
end
section
variable {B:Bx} {c:Cx} {m:Str→Option Value} {σ:St} {φ:bh} {nw:ad} {s:Shared} {A:Around} {E:Value→Shared→Prop} {d:Nat}
theorem yi {f:Fn} {fa:Addr} {vs:List V} {us:List Value} {Q:V→St→Prop} (hC:j3 B d f vs σ Q) (hf:cR B f=some fa) (K:aJ B c A (d+1)) (W:aC B c m σ φ nw s) (x:bC B φ nw vs us):
  wpAny (model B.prog B.w) A (call (.ref fa) us) (aq B c m φ nw Q) E s:=
 hC.elim λ fa' h=>wpAny_call (codeAny_mono ((J4 (h.1.symm.trans hf))▸h.2 c m φ nw s A us (K.le (Kt d)) W x) λ r s'=>by
  cases r with
  |error e=>exact False.elim
  |ok fl=>cases fl with
   |ret u=>exact λ h=>h
   |_=>exact λ h=>h.elim)
theorem uP (args:Args):(Code.builtin "type.__call__" args).weight≤2:=
 show 0+(if (Code.builtin "type.__call__" args).isCreation=true then 1 else 0)+0+0≤2 by cases (Code.builtin "type.__call__" args).isCreation<;>decide
theorem we (args:Args):(Code.builtin "type.__call__" args).cUnits≤10:=K4 rfl
end
section
variable {B:Bx} {C:ak} {d:Nat} {sc:Sc}
theorem E7 {op:A6} {a b:X} {l r:Expr} {pos:Pos} (ha:bk B C d sc a l) (hb:bk B C d sc b r):bk B C d sc (.bin op a b) (.BinOp l (zY op) r pos):=λ f w Q E o q=>
 JX (o.seqV (ha f w _ E o q) λ u w1 uu q x o1 X1=>JX (Kq (o1.seqV (hb f w1 _ E o1 q) λ v w2 uv q y o2 X2=>
  JX (KI (wpAny_operate' (rZ (X1.trans X2) (Hq o2.K o2.W (x.mono o1.W.R X2) y q)))))))
theorem E6 {op:yJ} {a b:X} {l r:Expr} {pos:Pos} (ha:bk B C d sc a l) (hb:bk B C d sc b r) (hm:behindInMarks (oI op) r=false):bk B C d sc (.cmp op a b) (.Compare l [oI op] [r] pos):=λ f w Q E o q=>by
 rw [eval_Compare1,markedBehindIn_of_false hm]
 exact JX (o.seqV (ha f w _ E o q) λ u w1 uu q x o1 X1=>JX (Kq (o1.seqV (hb f w1 _ E o1 q) λ v w2 uv q y o2 X2=>
  JX (KI (wpAny_operate' (Kn (AM (Q:=λ r σ=>Q (.bool r) σ) o2.K o2.W (x.mono o1.W.R X2) y q) (λ r s3 h=>h.elim λ b h=>h.1▸bf.use (Q:=λ r σ=>Q (.bool r) σ) h.2 λ σ3 φ3 news3 q W3 X3=>⟨.bool b,σ3,φ3,news3,q,.bool b,W3,(X1.trans X2).trans X3⟩) λ yy yy e=>e))))))
theorem FB {op:yJ} {a b:X} {l r:Expr} {pos:Pos} (ha:bk B C d sc a l) (hb:bk B C d sc b r) (hm:behindInMarks (oI op) r=false):yH B C d sc (.cmp op a b) (.Compare l [oI op] [r] pos):=λ f w Q E o q=>by
 show wpAny _ _ (do
  let left←eval l f.env
  let rv←holding [left] (markedBehindIn (oI op) r (eval r f.env))
  standAt pos
  let c←operate [left,rv] (compareOp (oI op) left rv)
  holding [c] (truthy c)) _ _ _
 rw [markedBehindIn_of_false hm]
 exact JX (o.seqV (ha f w _ E o q) λ u w1 uu q x o1 X1=>JX (Kq (o1.seqV (hb f w1 _ E o1 q) λ v w2 uv q y o2 X2=>
  JX (KI (JX (wpAny_operate' (Kn (AM (Q:=Q) o2.K o2.W (x.mono o1.W.R X2) y q) (λ r s3 h=>h.elim λ b h=>h.1▸Kq (wpAny_truthy_bool (bf.trans (X1.trans X2) h.2))) λ yy yy e=>e)))))))
theorem Ft {x:X} {e:Expr} (h:bk B C d sc x e) (he:∀env whole,isTrue e env whole=(do let v←whole;standAt e.pos;holding [v] (truthy v))) (hp:∀ρ σ Q,fe C x ρ σ Q→aH C x ρ σ λ v σ1=>bg v σ1 λ b=>Q b σ1):yH B C d sc x e:=λ f w Q E o q=>by
 rw [he]
 exact JX (o.seqV (h f w _ E o (hp _ _ Q q)) λ u w1 uu q x o1 X1=>JX (KI (Kq (HT X1 (tU o1.W x q)))))
theorem FA {a:X} {x:Expr} {pos:Pos} (h:yH B C d sc a x):yH B C d sc (.not_ a) (.UnaryOp .Not x pos):=λ f w Q E o q=>
 wpAny_isTrue_Not (h f w (λ b σ=>Q (!b) σ) E o q)
theorem FC {k:Bool} {l:List X} {es:List Expr} {pos:Pos} (h:HI B C d sc k l es):yH B C d sc (.bool k l) (.BoolOp (if k then .And else .Or) es pos):=λ f w Q E o q=>h f w Q E o q
theorem EF {k:Bool}:HI B C d sc k [] []:=λ f w Q E o q=>by
 cases k
 ·exact J7 ⟨_,_,_,q,o.W,.refl _ _⟩
 ·exact J7 ⟨_,_,_,q,o.W,.refl _ _⟩
theorem Ad {k:Bool} {x:X} {e:Expr} {l:List X} {es:List Expr} (hx:yH B C d sc x e) (h:HI B C d sc k l es):HI B C d sc k (x::l) (e::es):=λ f w Q E o q=>
 JX (o.seqB (hx f w _ E o q) λ b w1 q o1 X1=>by
  cases k<;>cases b
  ·exact HT X1 (h f w1 Q E o1 q)
  ·exact J7 ⟨_,_,_,q,o1.W,X1⟩
  ·exact J7 ⟨_,_,_,q,o1.W,X1⟩
  ·exact HT X1 (h f w1 Q E o1 q))
theorem pC {v:V} {σ:St} {P Q:Bool→Prop} (h:bg v σ P) (k:∀b,P b→Q b):bg v σ Q:=by
 unfold bg at h ⊢
 cases v with
 |bool b=>exact k _ h
 |int i=>exact k _ h
 |ref n=>
  revert h
  show (match σ.get n with|some (.list _ l)=>P (!l.isEmpty)|_=>False)→(match σ.get n with|some (.list _ l)=>Q (!l.isEmpty)|_=>False)
  cases σ.get n with
  |none=>exact id
  |some o=>cases o with
   |list t l=>exact k _
   |_=>exact id
 |_=>exact h
theorem Ey {k:Bool} {x:X} {e:Expr} (hx:bk B C d sc x e):HH B C d sc k [x] [e]:=λ f w Q E pos o q=>hx f w Q E o (by cases k<;>exact q)
theorem zZ {k:Bool} {x y:X} {e e':Expr} {l:List X} {es:List Expr} (hx:bk B C d sc x e) (h:HH B C d sc k (y::l) (e'::es)):HH B C d sc k (x::y::l) (e::e'::es):=λ f w Q E pos o q=>
 have q:aH C x f.ρ w.σ λ v σ1=>bg v σ1 λ b=>match b==k with|true=>lG C k (y::l) f.ρ σ1 Q|false=>Q v σ1:=by cases k<;>exact q
 JX (o.seqV (hx f w _ E o q) λ v w1 u q x o1 X1=>JX (KI (JX (Kq
  (o1.seqB (tU (Q:=λ b σ=>σ=w1.σ∧(match b==k with|true=>lG C k (y::l) f.ρ w1.σ Q|false=>Q v w1.σ)) o1.W x (pC q λ b q=>⟨rfl,q⟩)) λ b w2 q o2 X2=>by
   obtain ⟨e,q⟩:=q
   rw [←e] at q
   cases k<;>cases b
   ·exact rZ (X1.trans X2) (h f w2 Q E pos o2 q)
   ·exact J7 ⟨v,_,_,_,q,x.mono o1.W.R X2,o2.W,X1.trans X2⟩
   ·exact J7 ⟨v,_,_,_,q,x.mono o1.W.R X2,o2.W,X1.trans X2⟩
   ·exact rZ (X1.trans X2) (h f w2 Q E pos o2 q))))))
theorem Bj {k:Bool} {l:List X} {es:List Expr} {pos:Pos} (h:HH B C d sc k l es):bk B C d sc (.bool k l) (.BoolOp (if k then .And else .Or) es pos):=λ f w Q E o q=>h f w Q E pos o q
theorem E4 {t a b:X} {te x y:Expr} {pos:Pos} (ht:yH B C d sc t te) (ha:bk B C d sc a x) (hb:bk B C d sc b y):bk B C d sc (.ite t a b) (.IfExp te x y pos):=λ f w Q E o q=>
 wpAny_IfExp (o.seqB (ht f w _ E o q) λ r w1 q o1 X1=>by
  cases r
  ·exact rZ X1 (hb f w1 Q E o1 q)
  ·exact rZ X1 (ha f w1 Q E o1 q))
theorem nR:lU B C d sc [] []:=λ f w Q E pos o q=>spliced_none ⟨[],_,_,_,⟨rfl,q⟩,.nil,o.W,.refl _ _⟩
theorem j4 {x:X} {e:Expr} {l:List X} {es:List Expr} (hx:bk B C d sc x e) (hn:ar e=true) (h:lU B C d sc l es):lU B C d sc (x::l) (e::es):=λ f w Q E pos o q=>
 spliced_more (o.seqV (hx f w _ E o q) λ v w1 u q x o1 X1=>o1.seqS (h f w1 _ E pos o1 q) λ vs w2 us q y o2 X2=>
  ⟨v::vs,_,_,_,⟨congrArg (· +1) q.1,q.2⟩,.cons (x.mono o1.W.R X2) y,o2.W,X1.trans X2⟩) (dT hn es f.env)
theorem xm {n:Nat} (h:n≤1000):n≤aN:=JT h (by decide)
theorem Al {l:List X} {es:List Expr} {k:Nat} {pos:Pos} (h:lU B C d sc l es) (hl:l.length≤1000):bk B C d sc (.tup l) (.Tuple es k pos):=λ f w Q E o q=>
 Tuple_ (o.seqS (h f w _ E pos o q) λ vs w1 us q x o1 X1=>rZ X1 (sH o1.K o1.W x (xm (q.1▸hl)) q.2))
theorem Be {l:List X} {es:List Expr} {pos:Pos} (h:lU B C d sc l es) (hl:l.length≤1000):bk B C d sc (.list l) (.List es pos):=λ f w Q E o q=>
 List_ (o.seqS (h f w _ E pos o q) λ vs w1 us q x o1 X1=>rZ X1 (u5 o1.K o1.W x (xm (q.1▸hl)) aa q.2))
noncomputable def Io (id:Str) (n:String):Bool:=id==Str.ofString n && !(id==("__debug__":Str))
noncomputable def um (sc:Sc) (i:Nat) (id:Str):Bool:=sc.vars[i]? ==some id && !(id==("__debug__":Str))
noncomputable def cD (sc:Sc) (n:String) (id:Str):Bool:=Io id n && sc.names.lookup id==some .globalImplicit
theorem eI {b:Bool} (h:(!b)=true):b=false:=by cases b<;>first|rfl|cases h
theorem aZ {n:String} {id:Str} (h:cD sc n id=true):id=Str.ofString n∧(id==("__debug__":Str))=false∧sc.names.lookup id=some .globalImplicit:=
 have h:=J6.mp h
 have k:=J6.mp h.1
 ⟨Kk.mp k.1,eI k.2,Kk.mp h.2⟩
theorem kU {i:Nat} {id:Str} (h:um sc i id=true):sc.vars[i]? =some id∧(id==("__debug__":Str))=false:=
 have h:=J6.mp h
 ⟨Kk.mp h.1,eI h.2⟩
theorem Am {i:Nat} {id:Str} {pos:Pos} (h:um sc i id=true):bk B C d sc (.loc i) (.Name id pos):=λ f w Q E o q=>
 (sC (P:=λ v=>Q v w.σ) q).elim λ yy q=>GK o.W o.ev (kU h).1 (kU h).2 q.1 q.2
theorem HW {n:String} {id:Str} {pos:Pos} (BB:bA B) (h:cD sc n id=true):bk B C d sc (.gn n) (.Name id pos):=λ f w Q E o q=>
 (sC (P:=λ v=>Q v w.σ) q).elim λ v q=>(BB.glob n v q.1).elim λ u x=>sT o.K o.W o.ev (aZ h).2.2 (aZ h).2.1 ((aZ h).1▸x.1) (aq.of q.2 (x.2 _ _) o.W)
theorem E5 {i:Int} {k:Nat} {pos:Pos}:bk B C d sc (.int i) (.Constant (.int i) k pos):=λ f w Q E o q=>wpAny_mkInt (aq.of q (.int _ _) (o.W.tok _))
theorem EX {x:String} {k:Nat} {pos:Pos}:bk B C d sc (.str x) (.Constant (.str (Str.ofString x)) k pos):=λ f w Q E o q=>Constant_str (aq.of q (.str _ _) (o.W.tok _))
theorem Bb {k:Nat} {pos:Pos}:bk B C d sc .none (.Constant .none k pos):=λ f w Q E o q=>Constant_none (aq.of q .none o.W)
theorem HV {b:Bool} {k:Nat} {pos:Pos}:bk B C d sc (.tt b) (.Constant (.bool b) k pos):=λ f w Q E o q=>Constant_bool (aq.of q (.bool _) o.W)
theorem EZ {i:Int} {k:Nat} {p pos:Pos}:bk B C d sc (.neg i) (.UnaryOp .USub (.Constant (.int i) k p) pos):=λ f w Q E o q=>UnaryOp_ (wpAny_mkInt (P.neg_int (aq.of q (.int _ _) (o.W.tok _))))
theorem jm {M:Model} {A:Around} {E:Value→Shared→Prop} {s:Shared} {env:Env} {id:Str} {p pos:Pos} {es:List Expr} {Q:Value→Shared→Prop} (h:wpAny M A (eval (.Name id p) env) (λ f s₁=>wpAny M A (callWith pos f [] (backTo pos (starEach es env)) []) Q E s₁) E s):
  wpAny M A (eval (.Call (.Name id p) es [] pos) env) Q E s:=by
 show wpAny M A (do callWith pos (←eval (.Name id p) env) [] (backTo pos (starEach es env)) (backToKw pos (keywordEach [] env))) Q E s
 exact JX h
theorem vP {fn:String} {l:List X} {id:Str} {p pos:Pos} {es:List Expr} (BB:bA B) (hC:∀f vs σ Q,C f vs σ Q→j3 B d f vs σ Q) (hg:cD sc fn id=true) (hf:fn∈j9) (hp:es.all ar=true) (h:lU B C d sc l es):bk B C d sc (.call fn l) (.Call (.Name id p) es [] pos):=λ f w Q E o q=>
 (BB.fns fn hf).elim λ fa hf=>jm (sT o.K o.W o.ev (aZ hg).2.2 (aZ hg).2.1 ((aZ hg).1▸(lg hf).1)
  (eP h hp o (λ h X=>keeps_K (lg hf).2.2 h X) q λ vs w' us yy q x o' X=>rZ X (yi (hC _ _ _ _ q) hf o.K o'.W x)))
theorem IW {n:String} {bv:Value} {es:List Expr} {id:Str} {p pos:Pos} (BB:bA B) (hn:(n,bv)∈dn) (hk:∀h,∃k,(k=Keeper.frame∨k=Keeper.machine∨k=Keeper.boundFrame)∧Looks (model B.prog B.w) h (keeperOf bv) k)
  (hg:cD sc n id=true) (hp:es.all ar=true) {f:Fx} {w:Wd} {R:Value→Shared→Prop} {E:Value→Shared→Prop} (o:Ok B d sc f w)
  (h:wpAny (model B.prog B.w) f.A (spliced (backTo pos (starEach es f.env))) (λ us s'=>wpAny (model B.prog B.w) f.A (call bv us) R E s') E w.s):wpAny (model B.prog B.w) f.A (eval (.Call (.Name id p) es [] pos) f.env) R E w.s:=
 have b:=BB.bi n bv hn
 jm (vz o.K o.W o.ev (aZ hg).2.2 (aZ hg).2.1 ((aZ hg).1▸b.1) ((aZ hg).1▸b.2.1) ((aZ hg).1▸b.2.2)
  (callWith_of (P:=λ yy=>True) (Lr.mpr ⟨hJ hp,rfl⟩) (λ h yy=>hk h) (lh hp (Kn h (λ yy yy x=>⟨trivial,x⟩) λ yy yy x=>x))))
theorem HN {e:Expr} (h:ar e=true):[e].all ar=true:=J6.mpr ⟨h,rfl⟩
theorem Jk {e e':Expr} (h:ar e=true) (h':ar e'=true):[e,e'].all ar=true:=J6.mpr ⟨h,HN h'⟩
theorem vQ {n:String} {bv:Value} {a x:X} {e:Expr} {id:Str} {p pos:Pos} (BB:bA B) (hn:(n,bv)∈dn) (hk:∀h,∃k,(k=Keeper.frame∨k=Keeper.machine∨k=Keeper.boundFrame)∧Looks (model B.prog B.w) h (keeperOf bv) k)
  (hg:cD sc n id=true) (hns:ar e=true) (h:bk B C d sc a e) {P:V→St→(V→St→Prop)→Prop} (hx:∀ρ σ Q,aH C x ρ σ Q→aH C a ρ σ λ v σ1=>P v σ1 Q)
  (hS:∀f w v u Q E,Ok B d sc f w→VR B w.φ w.nw v u→P v w.σ Q→wpAny (model B.prog B.w) f.A (call bv [u]) (PV B f w Q) E w.s):bk B C d sc x (.Call (.Name id p) [e] [] pos):=λ f w Q E o q=>
 IW BB hn hk hg (HN hns) o (spliced_more (o.seqV (h f w _ E o (hx _ _ _ q)) λ v w1 u q x o1 X1=>spliced_none (rZ X1 (hS f w1 v u Q E o1 x q))) (dT hns _ _))
theorem E0 {a:X} {e:Expr} {id:Str} {p pos:Pos} (BB:bA B) (hg:cD sc "len" id=true) (hns:ar e=true) (h:bk B C d sc a e):bk B C d sc (.len a) (.Call (.Name id p) [e] [] pos):=
 vQ BB (.head _) (iq B "len") hg hns h (P:=kP) (λ yy yy yy q=>q) λ f w v u Q E o x q=>GM o.K o.W x q
theorem uN {a:X} {e:Expr} {id:Str} {p pos:Pos} (BB:bA B) (hg:cD sc "tuple" id=true) (hns:ar e=true) (h:bk B C d sc a e):bk B C d sc (.tupleOf a) (.Call (.Name id p) [e] [] pos):=
 vQ BB (.tail _ (.tail _ (.head _))) (gm B "tuple") hg hns h (P:=eD) (λ yy yy yy q=>q) λ f w v u Q E o x q=>yU o.K o.W x q
theorem yL {a:X} {e:Expr} {id:Str} {p pos:Pos} (BB:bA B) (hg:cD sc "str" id=true) (hns:ar e=true) (h:bk B C d sc a e):bk B C d sc (.strOf a) (.Call (.Name id p) [e] [] pos):=
 vQ BB (.tail _ (.tail _ (.tail _ (.head _)))) (gm B "str") hg hns h (P:=uQ) (λ yy yy yy q=>q) λ f w v u Q E o x q=>FK o.W x q
end
section
variable {B:Bx} {C:ak} {d:Nat} {sc:Sc}
variable {c:Cx} {m:Str→Option Value} {σ:St} {φ:bh} {nw:ad} {s:Shared} {A:Around} {E:Value→Shared→Prop}
theorem aJ.under (K:aJ B c A (d+1)) (args:Args):aJ B c (A.under (.builtin "type.__call__" args)) d:=
 ⟨K.bl,K.X,K.T,K.fr,K.ff,K.fk,K.hh,JV (by have:=uP args;show A.depth+_+_≤A.depth+2*(d+1);omega) K.dep,
  JV (by have:=we args;show A.units+_+_+_≤A.units+100+10*(d+1);omega) K.un,K.low,K.ro⟩
theorem GB {cn:String} {vs:List V} {us:List Value} {CA:Addr} {t:Tg} {Q:V→St→Prop} (BB:bA B) (hcn:cn∈cI) (hCA:jw B.K cn=some CA) (K:aJ B c A (d+1)) (W:aC B c m σ φ nw s) (x:bC B φ nw vs us)
  (q:j3 B d (.m cn "__init__") (.ref σ.len::vs) (σ.new (.inst t cn [])) λ r σ2=>r=.none∧Q (.ref σ.len) σ2):
  wpAny (model B.prog B.w) A (call (.ref CA) us) (aq B c m φ nw Q) E s:=by
 obtain ⟨hh,g,dd,tk,os⟩:=s
 refine q.elim λ fa q=>(k9 q.1).elim λ C' e=>?_
 have O:=BB.cls _ _ hcn hCA
 have W1:=W.alloc K emptyDict (by decide:0≤aN)
 have W2:=W1.alloc K (instObj CA hh.objs.size) (by decide:0≤aN)
 have z:(hh.push emptyDict).objs.size=hh.objs.size+1:=Heap.size_push ..
 have f2:=W1.fresh
 replace W2:aC B c m σ φ ((hh.objs.size+1,instObj CA hh.objs.size)::(hh.objs.size,emptyDict)::nw) ⟨(hh.push emptyDict).push (instObj CA hh.objs.size),g,dd,tk,os⟩:=z▸W2
 replace f2:hh.objs.size+1∉((hh.objs.size,emptyDict)::nw).map (·.1):=z▸f2
 have f1:hh.objs.size∉nw.map (·.1):=W.fresh
 have fm:∀y∈(hh.objs.size+1)::(some hh.objs.size).toList,y∉nw.map (·.1):=Kl.mpr ⟨λ h=>f2 (KK _ h),Kl.mpr ⟨f1,nofun⟩⟩
 have hr:=W2.R.reg (o:=.inst t cn []) (a:=hh.objs.size+1) (d:=some hh.objs.size) (.inst hcn hCA Ky (n:=0) (es:=[]) (KK _ Ky) .nil (Kw _))
  (λ y hy=>W.R.off (fm y hy)) (KE.mpr ⟨λ h=>Nat.succ_ne_self _ (Ko.mp h),KE.mpr ⟨nofun,KL⟩⟩)
 have hX:=(bI.trans (bI.extra (φ:=φ) (nw:=nw) (a:=hh.objs.size) (o:=emptyDict)) (bI.extra (a:=hh.objs.size+1) (o:=instObj CA hh.objs.size))).reg fm
 have W3:aC B c m (σ.new (.inst t cn [])) (φ++[(hh.objs.size+1,some hh.objs.size)]) _ _:=⟨W2.F,W2.N,hr,W2.g,W2.o⟩
 have hxr:VR B (φ++[(hh.objs.size+1,some hh.objs.size)]) ((hh.objs.size+1,instObj CA hh.objs.size)::(hh.objs.size,emptyDict)::nw) (.ref σ.len) (.ref (hh.objs.size+1)):=.ref (W.last _)
 have e1:C'=CA:=J4 (e.1.symm.trans hCA)
 refine wpAny_call (make_core (makes_of (W.X K) O.makes) (looks_findIn (W.X K) (e1▸e.2.1)) (λ self=>bind_fn (W.X K) self (Kk.mp e.2.2.1)) (.inl rfl)
  (codeAny_mono (q.2 c m _ _ _ _ _ (K.under _) W3 (.cons hxr (x.mono W.R hX))) λ r s'=>?_))
 cases r with
 |error e=>exact False.elim
 |ok fl=>cases fl with
  |ret u=>
   exact λ h=>aq.use (Q:=λ r σ2=>r=.none∧Q (.ref σ.len) σ2) h λ v σ' φ' nw' q y W4 X4=>by
    have y:=q.1▸y
    cases y
    exact ⟨rfl,.ref σ.len,σ',φ',nw',q.2,hxr.mono W3.R X4,W4,hX.trans X4⟩
  |_=>exact False.elim
theorem EY {cn:String} {l:List X} {id:Str} {p pos:Pos} {es:List Expr} (BB:bA B) (hC:∀f vs σ Q,C f vs σ Q→j3 B d f vs σ Q) (hg:cD sc cn id=true) (hf:cn∈cI) (hp:es.all ar=true) (h:lU B C d sc l es):bk B C d sc (.new cn l) (.Call (.Name id p) es [] pos):=λ f w Q E o q=>
 (BB.inits cn hf).elim λ fa hfa=>(k9 hfa).elim λ CA e=>by
  have hns:nsIn B.K mainGlobals (Str.ofString cn)=some (some (.ref CA)):=yc e.1
  exact jm (sT o.K o.W o.ev (aZ hg).2.2 (aZ hg).2.1 ((aZ hg).1▸hns)
   (eP h hp o (λ h X=>keeps_K (BB.cls _ _ hf e.1).kp h X) q λ vs w' us yy q x o' X=>rZ X (GB BB hf e.1 o.K o'.W x (hC _ _ _ _ q))))
end
theorem eC {ob:Expr} {name:Str} {env:Env} {w:Sem Value} (h:db ob=true):attributeBase ob name env w=w:=by
 cases ob with
 |Call=>cases h
 |_=>rfl
theorem kl {sl:Expr} (h:ii sl=true) (o i:Value):subscripted sl false o i=operate [o,i] (getItem o i):=by
 cases sl with
 |Slice=>cases h
 |_=>rfl
theorem rH {env:Env} {pos:Pos}:∀{es:List Expr},es.all ar=true→(backTo pos (starEach es env)).all (!·.1)=true
 |[],_=>rfl
 |e::es,h=>by
  have h:=J6.mp (show (ar e && es.all ar)=true from h)
  rw [dT h.1];exact rH h.2
theorem G7 {es:List Expr} {env:Env} {pos:Pos} (h:es.all ar=true) (hl:es.length<20):methodCallForm (es.length+([]:List Keyword).length) (backTo pos (starEach es env)) (backToKw pos (keywordEach [] env))=true:=
 J6.mpr ⟨J6.mpr ⟨rH h,rfl⟩,KZ (JS hl (by decide))⟩
theorem jq {M:Model} {A:Around} {E:Value→Shared→Prop} {s:Shared} {env:Env} {ob:Expr} {name:Str} {ap pos:Pos} {es:List Expr} {Q:Value→Shared→Prop} (h1:db ob=true) (h2:(ap.endLine==pos.line)=true) (h3:es.all ar=true) (h4:es.length<20)
  (h:wpAny M A (eval ob env) (λ ov s₁=>∀pl,wpAny M A (getMethod ov name pl) (λ fx s₂=>wpAny M A (callWith pos fx.1 fx.2 (backTo pos (starEach es env)) []) Q E s₂) E s₁) E s):
  wpAny M A (eval (.Call (.Attribute ob name ap) es [] pos) env) Q E s:=by
 rw [arm_eval_Call,eC h1]
 refine JX (Kn h (λ ov s₁ h₁=>JX (KI ?_)) λ yy yy x=>x)
 unfold methodCall
 rw [G7 h3 h4]
 refine JX (Kq (Kn (h₁ _) (λ fx s₂ h₂=>?_) λ yy yy x=>x))
 have hp:methodCallPos true ob env ap pos=pure pos:=by unfold methodCallPos;rw [h2];rfl
 show wpAny M A (methodCallPos true ob env ap pos>>=_) Q E s₂
 rw [hp]
 exact JX (J7 h₂)
theorem AR.gone {B:Bx} {φ:bh} {nw:ad} {l:List (String×V)} {es:List DictEntry} (h:AR B φ nw l es) {n:String} (hv:cu l n=none):getL (Str.ofString n) es=some none:=by
 cases h.at_ n with
 |no _ h2=>exact h2
 |at_ _ _ h1 _ _=>cases hv.symm.trans h1
section
variable {B:Bx} {C:ak} {d:Nat} {sc:Sc}
theorem Bc {o:X} {n:String} {l:List X} {ob:Expr} {ap pos:Pos} {es:List Expr} (BB:bA B) (hC:∀f vs σ Q,C f vs σ Q→j3 B d f vs σ Q) (h1:db ob=true) (h2:(ap.endLine==pos.line)=true) (h4:es.length<20) (hp:es.all ar=true)
  (ho:bk B C d sc o ob) (h:lU B C d sc l es):bk B C d sc (.meth o n l) (.Call (.Attribute ob (Str.ofString n) ap) es [] pos):=λ f w Q E o q=>
 jq h1 h2 hp h4 (o.seqV (ho f w _ E o q) λ v w1 u q x o1 X1 pl=>
  (xL (v:=v) (σ:=w1.σ) (P:=λ r t c as=>(c,n)∈mzz∧cu as n=none∧aI C l f.ρ w1.σ λ vs σ2=>C (.m c n) (v::vs) σ2 Q) q).elim λ r q=>q.elim λ t q=>q.elim λ cn q=>q.elim λ as q=>by
   have x0:VR B w1.φ w1.nw (.ref r) u:=q.1▸x
   revert x
   exact o1.W.instK q.2.1 x0 λ a dx CA es' k g1 g2 g3 g4 g5 g6 g7 x=>(BB.mts cn n q.2.2.1).elim λ fa hf=>(k9 hf).elim λ C' e=>
    method_inst o1.W.F o.K.X (InstAt.of_news o1.W.N g3 g4) (BB.cls _ _ g1 g2).get (J4 (e.1.symm.trans g2)▸e.2.1) e.2.2.1 (g5.gone q.2.2.2.1)
     (eP h hp o1 (λ h X=>keeps_K e.2.2.2 h X) q.2.2.2.2 λ vs w' us yy q y o' X=>rZ (X1.trans X) (yi (hC _ _ _ _ q) hf o.K o'.W (.cons (x.mono o1.W.R X) y))))
theorem Bk {x o:X} {l:List X} {ob:Expr} {name:Str} {id:String} {ap pos:Pos} {es:List Expr} (h1:db ob=true) (h2:(ap.endLine==pos.line)=true) (h4:es.length<20) (hp:es.all ar=true)
  (ho:bk B C d sc o ob) (h:lU B C d sc l es) {P:V→List V→St→(V→St→Prop)→Prop} {is:V→St→Prop}
  (hx:∀ρ σ Q,aH C x ρ σ Q→aH C o ρ σ λ u σ1=>is u σ1∧aI C l ρ σ1 λ vs σ2=>P u vs σ2 Q)
  (hmeth:∀f w v u (pl:Sem Bool) (Q:Value×List Value→Shared→Prop) (E:Value→Shared→Prop),Ok B d sc f w→VR B w.φ w.nw v u→is v w.σ→Q (.builtin id,[u]) w.s→wpAny (model B.prog B.w) f.A (getMethod u name pl) Q E w.s)
  (hS:∀f w v u vs us Q E,Ok B d sc f w→VR B w.φ w.nw v u→bC B w.φ w.nw vs us→P v vs w.σ Q→wpAny (model B.prog B.w) f.A (call (.builtin id) (u::us)) (PV B f w Q) E w.s):bk B C d sc x (.Call (.Attribute ob name ap) es [] pos):=λ f w Q E o q=>
 jq h1 h2 hp h4 (o.seqV (ho f w _ E o (hx _ _ _ q)) λ v w1 u q x o1 X1 pl=>hmeth f w1 v u pl _ _ o1 x q.1
  (eP h hp o1 (λ h yy=>iq B id h) q.2 λ vs w' us hl q y o' X=>rZ (X1.trans X) (hS f w' v u vs us Q E o' (x.mono o1.W.R X) y q)))
noncomputable def Jj (P:V→V→St→(V→St→Prop)→Prop) (u:V) (vs:List V) (σ:St) (Q:V→St→Prop):Prop:=match vs with
 |[]=>False
 |v::l=>match l with
  |[]=>P u v σ Q
  |_::_=>False
noncomputable def JH (P:V→St→(V→St→Prop)→Prop) (u:V) (vs:List V) (σ:St) (Q:V→St→Prop):Prop:=match vs with
 |[]=>P u σ Q
 |_::_=>False
noncomputable def JG (P:V→V→V→St→(V→St→Prop)→Prop) (u:V) (vs:List V) (σ:St) (Q:V→St→Prop):Prop:=match vs with
 |[]=>False
 |v::l=>Jj (λ u w=>P u v w) u l σ Q
theorem Ao {x o a:X} {ob e:Expr} {name:Str} {id:String} {ap pos:Pos} (h1:db ob=true) (h2:(ap.endLine==pos.line)=true) (hn:ar e=true)
  (ho:bk B C d sc o ob) (ha:bk B C d sc a e) {P:V→V→St→(V→St→Prop)→Prop} {is:V→St→Prop}
  (hx:∀ρ σ Q,aH C x ρ σ Q→aH C o ρ σ λ u σ1=>is u σ1∧aI C [a] ρ σ1 λ vs σ2=>Jj P u vs σ2 Q)
  (hmeth:∀f w v u (pl:Sem Bool) (Q:Value×List Value→Shared→Prop) (E:Value→Shared→Prop),Ok B d sc f w→VR B w.φ w.nw v u→is v w.σ→Q (.builtin id,[u]) w.s→wpAny (model B.prog B.w) f.A (getMethod u name pl) Q E w.s)
  (hS:∀f w v u v' u' Q E,Ok B d sc f w→VR B w.φ w.nw v u→VR B w.φ w.nw v' u'→P v v' w.σ Q→wpAny (model B.prog B.w) f.A (call (.builtin id) [u,u']) (PV B f w Q) E w.s):bk B C d sc x (.Call (.Attribute ob name ap) [e] [] pos):=
 Bk (l:=[a]) h1 h2 (show 1<20 by decide) (HN hn) ho (j4 ha hn nR) hx hmeth λ f w v u vs us Q E o x y q=>by
  cases y with
  |nil=>exact q.elim
  |cons y1 y2=>cases y2 with
   |nil=>exact hS f w v u _ _ Q E o x y1 q
   |cons=>exact q.elim
theorem An {x o a b:X} {ob e e':Expr} {name:Str} {id:String} {ap pos:Pos} (h1:db ob=true) (h2:(ap.endLine==pos.line)=true) (hn:ar e=true) (hn':ar e'=true)
  (ho:bk B C d sc o ob) (ha:bk B C d sc a e) (hb:bk B C d sc b e') {P:V→V→V→St→(V→St→Prop)→Prop} {is:V→St→Prop}
  (hx:∀ρ σ Q,aH C x ρ σ Q→aH C o ρ σ λ u σ1=>is u σ1∧aI C [a,b] ρ σ1 λ vs σ2=>JG P u vs σ2 Q)
  (hmeth:∀f w v u (pl:Sem Bool) (Q:Value×List Value→Shared→Prop) (E:Value→Shared→Prop),Ok B d sc f w→VR B w.φ w.nw v u→is v w.σ→Q (.builtin id,[u]) w.s→wpAny (model B.prog B.w) f.A (getMethod u name pl) Q E w.s)
  (hS:∀f w v u v1 u1 v2 u2 Q E,Ok B d sc f w→VR B w.φ w.nw v u→VR B w.φ w.nw v1 u1→VR B w.φ w.nw v2 u2→P v v1 v2 w.σ Q→wpAny (model B.prog B.w) f.A (call (.builtin id) [u,u1,u2]) (PV B f w Q) E w.s):bk B C d sc x (.Call (.Attribute ob name ap) [e,e'] [] pos):=
 Bk (l:=[a,b]) h1 h2 (show 2<20 by decide) (Jk hn hn') ho (j4 ha hn (j4 hb hn' nR)) hx hmeth λ f w v u vs us Q E o x y q=>by
  cases y with
  |nil=>exact q.elim
  |cons y1 y2=>cases y2 with
   |nil=>exact q.elim
   |cons y2 y3=>cases y3 with
    |nil=>exact hS f w v u _ _ _ _ Q E o x y1 y2 q
    |cons=>exact q.elim
theorem Bf {o a:X} {ob e:Expr} {ap pos:Pos} (h1:db ob=true) (h2:(ap.endLine==pos.line)=true) (hn:ar e=true) (ho:bk B C d sc o ob) (ha:bk B C d sc a e):bk B C d sc (.lapp o a) (.Call (.Attribute ob (Str.ofString "append") ap) [e] [] pos):=
 Ao h1 h2 hn ho ha (is:=isList) (P:=nq) (λ yy yy yy q=>q) (λ f w v u pl Q E o x hv q=>xg o.W x hv PySem.F.slot_list_append PySem.F.type_list_append q) λ f w v u v' u' Q E o x y q=>yv o.W x y q
theorem Bd {o:X} {ob:Expr} {ap pos:Pos} (h1:db ob=true) (h2:(ap.endLine==pos.line)=true) (ho:bk B C d sc o ob):bk B C d sc (.lpop o) (.Call (.Attribute ob (Str.ofString "pop") ap) [] [] pos):=
 Bk (l:=[]) h1 h2 (show 0<20 by decide) rfl ho nR (is:=isList) (P:=JH nc) (λ yy yy yy q=>q)
  (λ f w v u pl Q E o x hv q=>xg o.W x hv PySem.F.slot_list_pop PySem.F.type_list_pop q) λ f w v u vs us Q E o x y q=>by
  cases y with
  |nil=>exact Gd o.W x q
  |cons=>exact q.elim
theorem vO {o a:X} {ob e:Expr} {ap pos:Pos} (h1:db ob=true) (h2:(ap.endLine==pos.line)=true) (hn:ar e=true) (ho:bk B C d sc o ob) (ha:bk B C d sc a e):bk B C d sc (.lindex o a) (.Call (.Attribute ob (Str.ofString "index") ap) [e] [] pos):=
 Ao h1 h2 hn ho ha (is:=isList) (P:=gi) (λ yy yy yy q=>q) (λ f w v u pl Q E o x hv q=>xg o.W x hv PySem.F.slot_list_index PySem.F.type_list_index q) λ f w v u v' u' Q E o x y q=>zM o.K o.W x y q
theorem Bh {o k a:X} {ob e e':Expr} {ap pos:Pos} (h1:db ob=true) (h2:(ap.endLine==pos.line)=true) (hn:ar e=true) (hn':ar e'=true) (ho:bk B C d sc o ob) (hk:bk B C d sc k e) (ha:bk B C d sc a e'):
  bk B C d sc (.dget o k a) (.Call (.Attribute ob (Str.ofString "get") ap) [e,e'] [] pos):=
 An h1 h2 hn hn' ho hk ha (is:=ed) (P:=jv) (λ yy yy yy q=>q) (λ f w v u pl Q E o x hv q=>AC o.K o.W x hv PySem.F.slot_dict_get PySem.F.type_dict_get q) λ f w v u v1 u1 v2 u2 Q E o x y z q=>Ei o.K o.W x y z q
theorem yN {o k a:X} {ob e e':Expr} {ap pos:Pos} (h1:db ob=true) (h2:(ap.endLine==pos.line)=true) (hn:ar e=true) (hn':ar e'=true) (ho:bk B C d sc o ob) (hk:bk B C d sc k e) (ha:bk B C d sc a e'):
  bk B C d sc (.dsetd o k a) (.Call (.Attribute ob (Str.ofString "setdefault") ap) [e,e'] [] pos):=
 An h1 h2 hn hn' ho hk ha (is:=ed) (P:=fE) (λ yy yy yy q=>q) (λ f w v u pl Q E o x hv q=>AC o.K o.W x hv PySem.F.slot_dict_setdefault PySem.F.type_dict_setdefault q) λ f w v u v1 u1 v2 u2 Q E o x y z q=>zS o.K o.W x y z q
theorem Bl {o:X} {n:String} {ob:Expr} {pos:Pos} (BB:bA B) (h1:db ob=true) (hn:n∈cf) (ho:bk B C d sc o ob):bk B C d sc (.attr o n) (.Attribute ob (Str.ofString n) pos):=λ f w Q E o q=>by
 rw [arm_eval_Attribute,eC h1]
 exact JX (o.seqV (ho f w _ E o q) λ v w1 u q x o1 X1=>JX (KI (JX (Kq
  (Kn (rZ X1 (ED BB.toBxOk o.K o1.W hn x q)) (λ r s2 h=>JX (wpAny_letTemporaryGo (J7 h))) λ yy yy e=>e)))))
theorem EW {o i:X} {ob sl:Expr} {pos:Pos} (h1:ii sl=true) (ho:bk B C d sc o ob) (hi:bk B C d sc i sl):bk B C d sc (.sub o i) (.Subscript ob sl pos):=λ f w Q E o q=>
 Subscript_ (o.seqV (ho f w _ E o q) λ u w1 uu q x o1 X1=>o1.seqV (hi f w1 _ E o1 q) λ v w2 uv q y o2 X2=>
  have z:=FH (E:=E) o2.K o2.W (x.mono o1.W.R X2) y q
  z.1.elim λ T h=>h.elim λ id h=>tail_any h.1 h.2 (rZ (X1.trans X2) z.2) (kl h1 _ _))
theorem Ba {o i:X} {ob e:Expr} {p pos:Pos} (ho:bk B C d sc o ob) (hi:bk B C d sc i e):bk B C d sc (.slTo o i) (.Subscript ob (.Slice none (some e) none p) pos):=λ f w Q E o q=>
 Subscript_ (o.seqV (ho f w _ E o q) λ u w1 uu q x o1 X1=>wpAny_Slice (by
  rw [evalPart_none,evalPart_some]
  exact J7 (o1.seqV (hi f w1 _ E o1 q) λ v w2 uv q y o2 X2=>J7
   (have z:=wx (E:=E) o2.K o2.W (x.mono o1.W.R X2) y q
   tail_any z.1 slot_list_getitem.lookup (rZ (X1.trans X2) z.2) rfl))))
theorem yM {o:X} {ob:Expr} {p pos:Pos} (ho:bk B C d sc o ob):bk B C d sc (.slAll o) (.Subscript ob (.Slice none none none p) pos):=λ f w Q E o q=>
 Subscript_ (o.seqV (ho f w _ E o q) λ u w1 uu q x o1 X1=>wpAny_Slice (by
  rw [evalPart_none]
  exact J7 (J7 (J7 (have z:=zc (E:=E) o1.K o1.W x q;tail_any z.1 slot_list_getitem.lookup (rZ X1 z.2) rfl)))))
theorem vM {o:X} {k:Nat} {ob:Expr} {kk:Nat} {p p' pos:Pos} (ho:bk B C d sc o ob):bk B C d sc (.slFrom o k) (.Subscript ob (.Slice (some (.Constant (.int (k:Int)) kk p')) none none p) pos):=λ f w Q E o q=>
 Subscript_ (o.seqV (ho f w _ E o q) λ u w1 uu q x o1 X1=>wpAny_Slice (by
  rw [evalPart_none,evalPart_some]
  exact wpAny_mkInt (J7 (J7 (have z:=wy (E:=E) (tk:=w1.s.toks) (o1.W.tok (w1.s.toks+1)) x q;tail_any z.1 F.slot_str_getitem.lookup (rZ X1 z.2) rfl)))))
end
inductive PR (B:Bx) (φ:bh) (nw:ad):List (V×V)→List (Value×Value)→Prop
 |nil:PR B φ nw [] []
 |cons {k v:V} {uk u:Value} {l:List (V×V)} {us:List (Value×Value)}:VR B φ nw k uk→kk 1 k=true→VR B φ nw v u→PR B φ nw l us→PR B φ nw ((k,v)::l) ((uk,u)::us)
theorem u0 {α β:Type} {f:α→β} {l r:List α} {p:α} (h:((l++p::r).map f).Nodup):(l.map f).Nodup∧f p∉l.map f:=by
 rw [List.map_append] at h
 have h:=Lb.mp h
 exact ⟨h.1,λ k=>h.2.2 _ k _ Ky rfl⟩
section
variable {B:Bx} {C:ak} {d:Nat} {sc:Sc}
variable {c:Cx} {m:Str→Option Value} {σ:St} {φ:bh} {nw:ad} {s:Shared} {A:Around} {E:Value→Shared→Prop}
theorem PR.mono' {φ':bh} {nw':ad} (hp:φ<+:φ') (ht:∀a vs n,(a,am vs n)∈nw→(a,am vs n)∈nw') {l:List (V×V)} {us:List (Value×Value)} (h:PR B φ nw l us):PR B φ' nw' l us:=by
 induction h with
 |nil=>exact .nil
 |cons x k y _ ih=>exact .cons (x.mono' hp ht) k (y.mono' hp ht) ih
theorem eM {a:Addr} {o':Obj} (nn:(nw.map (·.1)).Nodup) {ob:Obj} (h:(a,ob)∈nw) (nt:∀vs k,ob≠am vs k):∀x vs n,(x,am vs n)∈nw→(x,am vs n)∈setN nw a o':=
 λ x vs n hx=>au hx (ou nn h nt hx)
theorem kr {a:Addr} (K:aJ B c A (d+1)):∀(ps:List (V×V)) (kvs:List (Value×Value)) (acc:List (V×V)) (es:List DictEntry) (n:Nat) (nw:ad) (s:Shared) (Q:PUnit→Shared→Prop) (φ₀:bh) (news₀:ad),
  aC B c m σ φ nw s→bI φ₀ news₀ φ nw→a∉news₀.map (·.1)→(a,dictOf es n)∈nw→a∉aB φ→DR B φ nw 1 acc es→((acc++ps).map (·.1)).Nodup→PR B φ nw ps kvs→(acc++ps).length<aN→
  (∀nw' s' es' n',aC B c m σ φ nw' s'→bI φ₀ news₀ φ nw'→(a,dictOf es' n')∈nw'→DR B φ nw' 1 (acc++ps) es'→Q PUnit.unit s')→wpAny (model B.prog B.w) A (storeAll a kvs) Q E s
 |[],kvs,acc,es,n,nw,s,Q,φ₀,news₀,W,X,hx,hm,hn,D,nd,P,hl,q=>by
  cases P
  exact J7 (q nw s es n W X hm ((List.append_nil acc).symm▸D))
 |(k,v)::ps,kvs,acc,es,n,nw,s,Q,φ₀,news₀,W,X,hx,hm,hn,D,nd,P,hl,q=>by
  cases P with
  |cons xk hk y P=>
   have hd:=u0 nd
   have hl':acc.length<aN:=JV (by rw [List.length_append];exact JU _ _) hl
   rw [List.append_cons] at nd hl q
   unfold storeAll
   rw [List.forIn_cons]
   exact JX (JX (nz K W (JV (by omega) K.un) hm D hd.1 xk hk y hl' λ es' n' D' nd' hz' h' t' hs ho'=>J7
    (kr K ps _ (acc++[(k,v)]) es' n' (setN nw a (dictOf es' n')) _ Q φ₀ news₀ (W.turn (o':=dictOf es' n') hm hn (bw es n) u7 hs ho' t') (X.turn hx) hx (bt hm) hn
     ((vd (ip hd.2)).2 v▸D') nd (P.mono' (J1 _) (eM W.R.nn hm (bw es n))) hl q)))
theorem Ok.to {f:Fx} {w:Wd} (o:Ok B d sc f w) {σ':St} {φ':bh} {nw':ad} {s':Shared} (W':aC B f.c f.m σ' φ' nw' s') (X:bI w.φ w.nw φ' nw'):Ok B d sc f ⟨σ',φ',nw',s'⟩:=⟨o.K,W',o.ev.mono o.W.R X⟩
noncomputable def da:List String→List (Option Expr)→Prop
 |[],es=>es=[]
 |k::ks,es=>∃kd p es',es=some (.Constant (.str (Str.ofString k)) kd p)::es'∧da ks es'
theorem da.some:∀{ks:List String} {es:List (Option Expr)},da ks es→es.all (·.isSome)=true∧es.length=ks.length
 |[],_,h=>by cases h;exact ⟨rfl,rfl⟩
 |k::ks,_,⟨kd,p,es',e,h⟩=>by
  cases e
  have i:=da.some h
  exact ⟨i.1,congrArg (· +1) i.2⟩
noncomputable def Hz (B:Bx) (C:ak) (d:Nat) (sc:Sc) (ks:List String) (l:List X) (keys:List (Option Expr)) (es:List Expr):Prop:=∀f w Q E pos,Ok B d sc f w→aI C l f.ρ w.σ Q→
  wpAny (model B.prog B.w) f.A (evalPairs (pairTrees keys es f.env pos)) (λ kvs s'=>∃vs w',vs.length=ks.length∧Q vs w'.σ∧PR B w'.φ w'.nw ((ks.map V.str).zip vs) kvs∧aC B f.c f.m w'.σ w'.φ w'.nw s'∧w.le w') E w.s
theorem BU:Hz B C d sc [] [] [] []:=λ f w Q E pos o q=>evalPairs_nil ⟨[],w,rfl,q,.nil,o.W,.refl _ _⟩
theorem zo {k:String} {ks:List String} {x:X} {l:List X} {kd:Nat} {p:Pos} {e:Expr} {keys:List (Option Expr)} {es:List Expr} (hx:bk B C d sc x e) (h:Hz B C d sc ks l keys es):
  Hz B C d sc (k::ks) (x::l) (some (.Constant (.str (Str.ofString k)) kd p)::keys) (e::es):=λ f w Q E pos o q=>
 have o0:=o.to (o.W.tok (w.s.toks+1)) (.refl _ _)
 evalPairs_cons (Constant_str (JX (o0.seqV (hx f _ _ E o0 q) λ v w1 u q x o1 X1=>JX (KI (J7
  (Kn (h f w1 _ E pos o1 q) (λ kvs s2 hh=>hh.elim λ vs hh=>hh.elim λ w2 hh=>
   ⟨v::vs,w2,congrArg (· +1) hh.1,hh.2.1,.cons (.str _ _) rfl (x.mono o1.W.R hh.2.2.2.2) hh.2.2.1,hh.2.2.2.1,X1.trans hh.2.2.2.2⟩) λ yy yy e=>e))))))
theorem Bg {ks:List String} {l:List X} {keys:List (Option Expr)} {es:List Expr} {pos:Pos} (hne:keys≠[]) (nd:(ks.map V.str).Nodup) (hl15:ks.length≤15) (hk:da ks keys) (hl:ks.length=es.length) (h:Hz B C d sc ks l keys es):
  bk B C d sc (.dict 1 ks l) (.Dict keys es pos):=λ f w Q E o q=>by
 have W1:=o.W.alloc o.K (dictOf [] 0) u7
 have o1:=o.to W1 bI.extra
 refine wpAny_Dict_any hk.some.1 (hk.some.2.trans hl) hne (hk.some.2▸hl15) (Kn (h f _ _ E pos o1 q) (λ kvs s2 hh=>hh.elim λ vs hh=>hh.elim λ w2 hh=>?_) λ yy yy e=>e)
 have hf:w.s.heap.objs.size∉w.nw.map (·.1):=o.W.fresh
 have z:=hh.2.2.2.2.offs (a:=w.s.heap.objs.size) (o:=dictOf [] 0) Ky (o.W.R.off hf)
 have X3:bI w.φ w.nw w2.φ w2.nw:=bI.extra.trans hh.2.2.2.2
 have e:((ks.map V.str).zip vs).map (·.1)=ks.map V.str:=List.map_fst_zip (J3 ((Km _).trans hh.1.symm))
 have hL:((ks.map V.str).zip vs).length<aN:=JV (by rw [List.length_zip,List.length_map];exact JT (Nat.min_le_left _ _) hl15) (by decide)
 exact kr o.K ((ks.map V.str).zip vs) kvs [] [] 0 w2.nw s2 _ w.φ w.nw hh.2.2.2.1 X3 hf z.1 z.2 .nil (e.symm▸nd) hh.2.2.1 hL λ news3 s3 es' n' W3 X4 hm' D'=>
  aq.regDict (n:=n') W3 X4 hm' hf z.2 D' (e.symm▸nd) (Kb hL) aa hh.2.1
theorem yO {kd:Nat} {pos:Pos}:bk B C d sc (.dict kd [] []) (.Dict [] [] pos):=λ f w Q E o q=>by
 show wpAny _ _ (do standAt pos;newDict) _ _ _
 exact JX (KI (wpAny_newObj_type (aq.regDict (n:=0) (o.W.alloc o.K (dictOf [] 0) u7) bI.extra Ky o.W.fresh (o.W.R.off o.W.fresh) .nil KL (Kw _) aa q)))
end
theorem zN (σ:St) (o:O):(σ.new o).get σ.len=some o:=Kg
theorem GX {v:V} {P:Int→Prop} (q:match v with| .int n=>P n|_=>False):∃n,v=.int n∧P n:=by
 cases v with
 |int n=>exact ⟨n,rfl,q⟩
 |_=>exact q.elim
theorem BJ {u v:V} {σ:St} {Q:List V→(St→Prop)→St→Prop} (q:match u,v with
  | .ref n,.int k=>(match σ.get n with
   |some (.list _ l)=>0≤k∧Q (l.take k.toNat) (λ σ'=>σ'.get σ.len=some (.list aa (l.take k.toNat))) (σ.new (.list aa (l.take k.toNat)))
   |_=>False)
  | .rol l,.int k=>0≤k∧Q ((l.map V.int).take k.toNat) (λ σ'=>σ'.get σ.len=some (.list aa ((l.map V.int).take k.toNat))) (σ.new (.list aa ((l.map V.int).take k.toNat)))
  |_,_=>False):jn u v σ λ v σ'=>cq v σ' λ l g=>Q l g σ':=by
 have fin:∀l:List V,Q l (λ σ'=>σ'.get σ.len=some (.list aa l)) (σ.new (.list aa l))→cq (.ref σ.len) (σ.new (.list aa l)) λ r g=>Q r g (σ.new (.list aa l)):=λ l q=>by
  unfold cq
  show (match (σ.new (.list aa l)).get σ.len with|some (.list t l)=>_|_=>False)
  rw [zN]
  exact q
 unfold jn
 cases u with
 |ref n=>cases v with
  |int k=>
   revert q
   show (match σ.get n with
    |some (.list _ l)=>0≤k∧Q (l.take k.toNat) (λ σ'=>σ'.get σ.len=some (.list aa (l.take k.toNat))) (σ.new (.list aa (l.take k.toNat)))
    |_=>False)→(match σ.get n with|some (.list _ l)=>0≤k∧_|_=>False)
   cases σ.get n with
   |none=>exact id
   |some o=>cases o with
    |list t l=>exact λ q=>⟨q.1,fin _ q.2⟩
    |_=>exact id
  |_=>exact q
 |rol l=>cases v with
  |int k=>exact ⟨q.1,fin _ q.2⟩
  |_=>exact q
 |_=>exact q
section
variable {B:Bx} {C:ak} {d:Nat} {sc:Sc} {f:Fx} {w:Wd} {E:Value→Shared→Prop}
theorem Ok.iter (o:Ok B d sc f w) {v:V} {u:Value} {Q:List V→(St→Prop)→St→Prop} {w₀:Wd} (x:VR B w.φ w.nw v u) (q:cq v w.σ λ l g=>Q l g w.σ) (X:w₀.le w):wpAny (model B.prog B.w) f.A (pyIter u) (PI B f w₀ Q) E w.s:=
 Kn (Cu o.K o.W x q) (λ r s2 h=>h.imp λ I h=>h.imp λ o h=>h.imp λ l h=>h.imp λ guard h=>h.imp λ src h=>⟨w,h.1,h.2.1,h.2.2.1,h.2.2.2.1,h.2.2.2.2.1,h.2.2.2.2.2,X⟩) λ yy yy e=>e
theorem uz {x:X} {e:Expr} (h:bk B C d sc x e) (hp:∀ρ σ (Q:List V→(St→Prop)→St→Prop),vf C x ρ σ Q→aH C x ρ σ λ v σ1=>cq v σ1 λ l g=>Q l g σ1):Ah B C d sc x e:=λ f w Q E o q=>
 o.seqV (h f w _ E o (hp _ _ Q q)) λ v w1 u q x o1 X1=>o1.iter x q X1
theorem GZ {l:List X} {e:Expr} (h:bk B C d sc (.tup l) e):Ah B C d sc (.tup l) e:=uz h λ ρ σ Q q=>
 have hh:∀(vs:List V) (σ:St),(cq (.tup vs) σ λ l g=>Q l g σ)=Q vs (λ yy=>True) σ:=λ vs σ=>by unfold cq;rfl
 show aI C l ρ σ λ vs σ1=>cq (.tup vs) σ1 λ l g=>Q l g σ1 from (funext λ vs=>funext λ σ1=>hh vs σ1:(λ (vs:List V) σ1=>cq (.tup vs) σ1 λ l g=>Q l g σ1)=λ vs σ1=>Q vs (λ yy=>True) σ1)▸q
theorem Cy {o i:X} {ob e:Expr} {p pos:Pos} (ho:bk B C d sc o ob) (hi:bk B C d sc i e):Ah B C d sc (.slTo o i) (.Subscript ob (.Slice none (some e) none p) pos):=λ f w Q E o q=>
 Subscript_ (o.seqV (ho f w _ E o q) λ u w1 uu q x o1 X1=>wpAny_Slice (by
  rw [evalPart_none,evalPart_some]
  exact J7 (o1.seqV (hi f w1 _ E o1 q) λ v w2 uv q y o2 X2=>J7
   (have z:=wx (E:=E) o2.K o2.W (x.mono o1.W.R X2) y (BJ q)
   tail_any z.1 slot_list_getitem.lookup (o2.seqV z.2 λ v w3 u q x o3 X3=>o3.iter x q ((X1.trans X2).trans X3)) rfl))))
theorem Ok.range (o:Ok B d sc f w) {a b:Int} {t u v:Tok} {w₀:Wd} {Q:List V→(St→Prop)→St→Prop} (h0:0≤a) (h1:a≤100000) (h2:0≤b) (h3:b≤100000) (q:Q (bG a b) (λ yy=>True) w.σ) (X:w₀.le w) (t':Nat):
  wpAny (model B.prog B.w) f.A (pyIter (.ref w.s.heap.objs.size)) (PI B f w₀ Q) E {{w.s with heap:=w.s.heap.push {cls:=.type "range",data:=.fields #[.int a t,.int b u,.int 1 v]}} with toks:=t'}:=
 ve o.K o.W h0 (KO h1 (by decide)) h2 (KO h3 (by decide)) rfl (λ I o s'' W2 hI hO=>⟨I,o,_,_,_,w,rfl,q,hI,W2,hO,λ yy yy=>⟨rfl,h0,KO h1 (by decide),h2,KO h3 (by decide)⟩,X⟩) t'
theorem CB {a:X} {e:Expr} {id:Str} {p pos:Pos} (BB:bA B) (hg:cD sc "range" id=true) (hns:ar e=true) (h:bk B C d sc a e):Ah B C d sc (.rng1 a) (.Call (.Name id p) [e] [] pos):=λ f w Q E o q=>
 IW BB (.tail _ (.head _)) (gm B "range") hg (HN hns) o (spliced_more (o.seqV (h f w _ E o q) λ v w1 u q x o1 X1=>spliced_none ((GX (v:=v) (P:=λ n=>0≤n∧n≤100000∧Q (bG 0 n) (λ yy=>True) w1.σ) q).elim λ n q=>by
  obtain ⟨rfl,q⟩:=q
  cases x
  exact call_range_1 (o1.range (Int.le_refl 0) (by decide) q.1 q.2.1 q.2.2 X1 (w1.s.toks+1+1)))) (dT hns _ _))
theorem Cz {a b:X} {e e':Expr} {id:Str} {p pos:Pos} (BB:bA B) (hg:cD sc "range" id=true) (hns:ar e=true) (hns':ar e'=true) (h:bk B C d sc a e) (h':bk B C d sc b e'):Ah B C d sc (.rng2 a b) (.Call (.Name id p) [e,e'] [] pos):=λ f w Q E o q=>
 IW BB (.tail _ (.head _)) (gm B "range") hg (Jk hns hns') o (spliced_more (o.seqV (h f w _ E o q) λ u w1 uu q x o1 X1=>spliced_more (o1.seqV (h' f w1 _ E o1 q) λ v w2 uv q y o2 X2=>spliced_none (by
  cases u with
  |int m=>cases v with
   |int n=>
    cases x
    cases y
    exact call_range_2 (o2.range q.1 q.2.1 q.2.2.1 q.2.2.2.1 q.2.2.2.2 (X1.trans X2) (w2.s.toks+1))
   |_=>exact q.elim
  |_=>exact q.elim)) (dT hns' _ _)) (dT hns _ _))
end
theorem cB:∀(ρ:ax) (i j:Nat) (v:V),j≠i→bK (d9 ρ i v) j=bK ρ j
 |[],_,_,_,_=>rfl
 |_::_,0,0,_,h=>absurd rfl h
 |_::_,0,_+1,_,_=>rfl
 |_::_,_+1,0,_,_=>rfl
 |_::r,i+1,j+1,v,h=>cB r i j v λ e=>h (congrArg (· +1) e)
theorem eE:∀(ρ:ax) (i:Nat) (v w:V),bK (d9 ρ i v) i=some w→w=v
 |[],_,_,_,h=>by cases h
 |_::_,0,_,_,h=>(J4 h).symm
 |_::r,i+1,v,w,h=>eE r i v w h
theorem gy:∀(l:List Nat) (vs:List V) (ρ:ax) (j:Nat),j∉l→bK (jo ρ l vs) j=bK ρ j
 |[],_,_,_,_=>rfl
 |_::_,[],_,_,_=>rfl
 |i::l,v::vs,ρ,j,h=>(gy l vs _ j λ k=>h (.tail _ k)).trans (cB ρ i j v λ e=>h (e▸.head _))
theorem uT (nw:ad) (a:Addr) (o o':Obj):setN (setN nw a o) a o'=setN nw a o':=
 (List.map_map ..).trans (K7 λ p yy=>by
  show (if (if p.1=a then (a,o) else p).1=a then (a,o') else if p.1=a then (a,o) else p)=_
  by_cases h:p.1=a
  ·rw [if_pos h,if_pos rfl,if_pos h]
  ·rw [if_neg h,if_neg h])
theorem uU {nw:ad} (nn:(nw.map (·.1)).Nodup) {a:Addr} {o:Obj} (h:(a,o)∈nw):setN nw a o=nw:=
 (K7 λ p hp=>by
  show (if p.1=a then (a,o) else p)=p
  by_cases e:p.1=a
  ·rw [if_pos e];subst e;exact congrArg (Prod.mk _) (aM nn h hp)
  ·exact if_neg e).trans (List.map_id _)
theorem mZ {l:List Str} (h:l.Nodup) {i j:Nat} {x:Str} (hi:l[i]? =some x) (hj:l[j]? =some x):i=j:=
 (List.getElem?_inj (Ka.mp hi).1 h).mp (hi.trans hj.symm)
structure cO (φ:bh) (nw:ad) (C:Addr) (o:Obj) (lk:Str→Option Value):Prop where
 hm:(C,o)∈nw
 hn:C∉aB φ
 ns:∀h:Heap,h.get? C=some o→h.Ns C lk
 nt:∃es ep,o.data=.dict es ep
section
variable {φ:bh} {nw:ad} {C:Addr} {o:Obj} {lk:Str→Option Value}
theorem cO.noTup (h:cO φ nw C o lk):∀vs k,o≠am vs k:=λ vs k q=>h.nt.elim λ yy n=>n.elim λ yy e=>by rw [q] at e;cases e
theorem cO.noCell (h:cO φ nw C o lk):∀v,o.data≠.cell v:=λ v q=>h.nt.elim λ yy n=>n.elim λ yy e=>by rw [q] at e;cases e
theorem cO.zero (h:cO φ nw C o lk):mc o≤aN:=h.nt.elim λ yy n=>n.elim λ yy e=>by unfold mc;rw [e];exact (Kw _)
theorem yA {h:Heap} (n:h.Ns C lk):∃o,h.get? C=some o∧(∃es ep,o.data=.dict es ep)∧∀h':Heap,h'.get? C=some o→h'.Ns C lk:=
 n.elim λ o n=>n.elim λ es n=>n.elim λ ep n=>⟨o,n.1,⟨es,ep,n.2.1⟩,λ yy ho'=>⟨o,es,ep,ho',n.2⟩⟩
theorem EH {h:Heap} {lk':Str→Option Value} (n:h.Ns C lk) (n':h.Ns C lk') (x:Str):lk x=lk' x:=
 n.elim λ o n=>n.elim λ es n=>n.elim λ ep n=>n'.elim λ o' n'=>n'.elim λ es' n'=>n'.elim λ ep' n'=>by
  have e:=J4 (n.1.symm.trans n'.1);subst e
  have e:=n.2.1.symm.trans n'.2.1
  cases e
  exact (n.2.2.2 x).symm.trans (n'.2.2.2 x)
end
noncomputable def Nm (P:Option NameKind→Prop) (sc:Sc) (i:Nat) (id:Str):Prop:=sc.vars[i]? =some id∧P (sc.names.lookup id)
noncomputable def cK (P:Option NameKind→Prop) (sc:Sc):List Expr→List Nat→Prop
 |[],l=>l=[]
 |e::es,l=>∃id p i l',e=.Name id p∧l=i::l'∧Nm P sc i id∧cK P sc es l'
inductive dg (P:Option NameKind→Prop) (sc:Sc):Expr→Bool→List Nat→Prop
 |name {id p i}:Nm P sc i id→dg P sc (.Name id p) false [i]
 |tup {es k p l}:cK P sc es l→dg P sc (.Tuple es k p) true l
noncomputable abbrev Af (o:Option NameKind):Prop:=o=some .local
section
variable {B:Bx} {C:ak} {d:Nat} {sc:Sc} {f:Fx} {w:Wd} {E:Value→Shared→Prop} {P:Option NameKind→Prop}
theorem lq {env:Env}:∀{es:List Expr} {l:List Nat},cK P sc es l→assignEach es env=es.map (λ e=>(false,assign e env))∧es.length=l.length
 |[],l,h=>⟨rfl,(congrArg List.length h).symm⟩
 |e::es,l,h=>h.elim λ id h=>h.elim λ p h=>h.elim λ i h=>h.elim λ l' h=>by
  obtain ⟨rfl,rfl,_,h⟩:=h
  have ih:=lq (env:=env) h
  exact ⟨congrArg (List.cons _) ih.1,congrArg (· +1) ih.2⟩
theorem pJ {id:Str} {i:Nat} {v:V} {u:Value} {oC:Obj} {lk:Str→Option Value} {Q:Unit→Shared→Prop} (o:Ok B d sc f w) (O:cO w.φ w.nw f.env.locals oC lk) (h:Nm Af sc i id) (hnd:sc.vars.Nodup) (x:VR B w.φ w.nw v u)
  (q:∀s' oC' lk',Ok B d sc {f with ρ:=d9 f.ρ i v} ⟨w.σ,w.φ,setN w.nw f.env.locals oC',s'⟩→cO w.φ (setN w.nw f.env.locals oC') f.env.locals oC' lk'→Q () s'):
  wpAny (model B.prog B.w) f.A (bindName f.env id u) Q E w.s:=by
 have hk':f.env.kindOf id=some .local:=(bb o.ev id).trans h.2
 unfold bindName
 refine JX (Kq (wpAny_point (JX (wpAny_storeName_local hk' (O.ns _ (o.W.inN O.hm)) (λ h' hn hs=>wpAny_point ?_) (by rw [o.ev.kind];rfl)))))
 refine (yA hn).elim λ oC' n=>?_
 have O':cO w.φ (setN w.nw f.env.locals oC') f.env.locals oC' (λ y=>if y=id then some u else lk y):=⟨bt O.hm,O.hn,n.2.2,n.2.1⟩
 have kt:=eM (o':=oC') o.W.R.nn O.hm O.noTup
 have W':=o.W.turn O.hm O.hn O.noTup O'.zero hs n.1 (w.s.toks+1)
 have V:=o.ev
 refine q _ oC' _ ⟨o.K,W',⟨V.kind,V.nm,V.glob,V.bi,V.cl,λ j n w' hj hw=>?_⟩⟩ O'
 by_cases e:j=i
 ·subst e
  have e:=J4 (h.1.symm.trans hj)
  subst e
  exact ⟨u,eE _ _ _ _ hw▸x.mono' (J1 _) kt,.own hk' O'.hm O'.hn O'.ns O'.noTup (if_pos rfl)⟩
 ·refine (V.at_ j n w' hj ((cB _ _ _ _ e).symm.trans hw)).imp λ u' z=>⟨z.1.mono' (J1 _) kt,?_⟩
  have ce:∀{a:Addr} {o₁:Obj} {y:Option Value},(a,o₁)∈w.nw→o₁.data=.cell y→(a,o₁)∈setN w.nw f.env.locals oC':=λ hm hd=>au hm λ e=>O.noCell _ ((congrArg Obj.data (aM o.W.R.nn O.hm ((show _=f.env.locals from e)▸hm))).trans hd)
  cases z.2 with
  |loc h1 h2 h3=>exact .loc h1 h2 h3
  |own h1 h2 h3 h4 h5 h6=>exact .own h1 O'.hm O'.hn O'.ns O'.noTup ((if_neg λ e':n=id=>e (mZ hnd hj (e'▸h.1))).trans ((EH (O.ns _ (o.W.inN O.hm)) (h4 _ (o.W.inN h2)) n).trans h6))
  |cell h1 h2 h3 h4 h5=>exact .cell h1 h2 (ce h3 h5) h4 h5
  |free h1 h2 h3 h4 h5 h6=>exact .free h1 h2 (ce h3 h5) h4 h5 h6
theorem lQ (hnd:sc.vars.Nodup):∀(es:List Expr) (l:List Nat) (vs:List V) (us:List Value) (f:Fx) (w:Wd) (oC:Obj) (lk:Str→Option Value) (Q:Unit→Shared→Prop),
  cK Af sc es l→vs.length=l.length→Ok B d sc f w→cO w.φ w.nw f.env.locals oC lk→bC B w.φ w.nw vs us→
  (∀s' oC' lk',Ok B d sc {f with ρ:=jo f.ρ l vs} ⟨w.σ,w.φ,setN w.nw f.env.locals oC',s'⟩→cO w.φ (setN w.nw f.env.locals oC') f.env.locals oC' lk'→Q () s')→
  wpAny (model B.prog B.w) f.A (assignInOrder (es.map λ e=>assign e f.env) us) Q E w.s
 |[],l,vs,us,f,w,oC,lk,Q,h,hv,o,O,x,q=>by
  have h:l=[]:=h
  subst h
  have e:=uU o.W.R.nn O.hm
  exact assignInOrder_nil (q w.s oC lk (e.symm▸o) (e.symm▸O))
 |e::es,l,vs,us,f,w,oC,lk,Q,h,hv,o,O,x,q=>h.elim λ id h=>h.elim λ p h=>h.elim λ i h=>h.elim λ l' h=>by
  obtain ⟨rfl,rfl,hn,h⟩:=h
  cases x with
  |nil=>cases hv
  |cons x1 x2=>
   exact assignInOrder_cons (JX (KI (pJ o O hn hnd x1 λ s' oC' lk' o' O'=>
    lQ hnd es l' _ _ _ _ oC' lk' Q h (Lq hv) o' O' (x2.setN o.W.R.nn O.hm O.noTup _) λ s2 oC2 lk2 o2 O2=>by
     have e2:=uT w.nw f.env.locals oC' oC2
     exact q s2 oC2 lk2 (e2▸o2) (e2▸O2))))
theorem Fp {ρ:ax} {l:List Nat} {v:V} {k:ax→Prop} (h:tV ρ true l v k):∃vs,v=.tup vs∧vs.length=l.length∧k (jo ρ l vs):=by
 cases v with
 |tup vs=>exact ⟨vs,rfl,h⟩
 |_=>exact h.elim
theorem mQ {es:List Expr} {kk:Nat} {p:Pos} {l:List Nat} {vs:List V} {u:Value} {Q:Unit→Shared→Prop} (o:Ok B d sc f w) (h:cK P sc es l) (hl:vs.length=l.length) (x:VR B w.φ w.nw (.tup vs) u)
  (k:∀us s',bC B w.φ w.nw vs us→aC B f.c f.m w.σ w.φ w.nw s'→wpAny (model B.prog B.w) f.A (assignInOrder (es.map λ e=>assign e f.env) us) Q E s'):wpAny (model B.prog B.w) f.A (assign (.Tuple es kk p) f.env u) Q E w.s:=by
 obtain ⟨a,us,rfl,t1,x',_⟩:=o.W.tuple o.K x
 have e1:=lq (env:=f.env) h
 refine wpAny_assign_Tuple o.K.hh t1 (by rw [e1.1,List.length_map,e1.2,List.size_toArray,←x'.length,hl]) (by rw [e1.1,List.findIdx?_map];exact List.findIdx?_eq_none_iff.mpr λ yy yy=>rfl) λ h' he=>?_
 rw [e1.1,List.map_map,List.toList_toArray]
 exact k us _ x' (o.W.keep (λ b o e=>he b o (J5 (Heap.lt_size e)) e) w.s.toks)
theorem ta {tg:Expr} {isTup:Bool} {l:List Nat} {v:V} {u:Value} {oC:Obj} {lk:Str→Option Value} {k:ax→Prop} {Q:Unit→Shared→Prop} (ht:dg Af sc tg isTup l) (hnd:sc.vars.Nodup) (o:Ok B d sc f w) (O:cO w.φ w.nw f.env.locals oC lk) (x:VR B w.φ w.nw v u) (hk:tV f.ρ isTup l v k)
  (q:∀s' oC' lk' ρ',k ρ'→(∀j,j∉l→bK ρ' j=bK f.ρ j)→Ok B d sc {f with ρ:=ρ'} ⟨w.σ,w.φ,setN w.nw f.env.locals oC',s'⟩→cO w.φ (setN w.nw f.env.locals oC') f.env.locals oC' lk'→Q () s'):
  wpAny (model B.prog B.w) f.A (assign tg f.env u) Q E w.s:=by
 cases ht with
 |name h=>exact JX (KI (pJ o O h hnd x λ s' oC' lk' o' O'=>q s' oC' lk' _ hk (λ j hj=>cB _ _ _ _ λ e=>hj (e▸.head _)) o' O'))
 |tup h=>
  exact (Fp hk).elim λ vs hk=>mQ o h hk.2.1 (hk.1▸x) λ us s' x' W'=>lQ hnd _ l vs us f ⟨_,_,_,_⟩ oC lk Q h hk.2.1 (o.to W' (.refl _ _)) O x' λ s2 oC2 lk2 o2 O2=>q s2 oC2 lk2 _ hk.2.2 (gy l vs f.ρ) o2 O2
theorem iU.noCell {φ:bh} {nw:ad} {i:Nat} {o:Obj} {src:sd} (hO:iU B φ nw i o src):∀v,o.data≠.cell v:=λ v e=>hO.cls.elim λ n h=>h.elim λ vs h=>by rw [h.2.1] at e;cases e
theorem kO {A:Around} {s:Shared} {tg:Expr} {isTup:Bool} {l:List Nat} {I:Addr} {o:Obj} {v:Value} {Q:Unit→Shared→Prop} (ht:dg P sc tg isTup l) (hI:s.heap.get? I=some o) (hO:∃n vs,o.cls=.type n∧o.data=.fields vs∧(["enumerate","zip","dict_itemiterator","dict_reverseitemiterator","odict_iterator","itertools.zip_longest","itertools.pairwise"].contains n)=false) (q:Q () s):
  wpAny (model B.prog B.w) A (letOwnedTupleGo tg (.ref I) v) Q E s:=by
 cases ht with
 |name h=>exact J7 q
 |tup h=>
  cases v with
  |ref a=>
   refine JX (wpAny_load hI (hO.elim λ n h=>h.elim λ vs h=>?_))
   rw [h.1,h.2.1]
   show wpAny _ _ (if (List.contains _ n && _)=true then _ else _) _ _ _
   rw [h.2.2]
   exact J7 q
  |_=>exact J7 q
theorem sP {A:Around} {I:Addr} {o:Obj} {src:sd} {i:Nat} {φ:bh} {nw:ad} {s:Shared} {Q:Value→Shared→Prop} (hI:s.heap.get? I=some o) (hO:iU B φ nw i o src) (q:Q (.ref I) s):wpAny (model B.prog B.w) A (pyIter (.ref I)) Q E s:=by
 cases hO with
 |list _ h1 h2=>exact wpAny_pyIter_listiter ⟨_,hI,h1,h2⟩ q
 |tup _ h1 h2=>exact wpAny_pyIter_tupleiter ⟨_,hI,h1,h2⟩ q
 |rng h=>exact wpAny_pyIter_rangeiter (h▸hI) q
end
noncomputable def Pv (w:Wd) (a:Addr) (o:Obj):Prop:=(a,o)∈w.nw∧a∉aB w.φ
theorem Pv.le {w w':Wd} {a:Addr} {o:Obj} (h:Pv w a o) (X:w.le w'):Pv w' a o:=X.offs h.1 h.2
theorem Pv.set {w:Wd} {a b:Addr} {o o':Obj} {s':Shared} (h:Pv w a o) (hn:a≠b):Pv ⟨w.σ,w.φ,setN w.nw b o',s'⟩ a o:=⟨au h.1 hn,h.2⟩
section
variable {B:Bx} {C:ak} {d:Nat} {sc:Sc} {f:Fx} {w:Wd} {E:Value→Shared→Prop}
theorem bV.turn {c:Cx} {m:Str→Option Value} {φ:bh} {nw:ad} {names:List (Str×NameKind)} {vars:List Str} {env:Env} {ρ:ax} {a:Addr} {o' ob:Obj} (V₀:bV B c m φ nw env names vars ρ) (nn:(nw.map (·.1)).Nodup) (h:(a,ob)∈nw) (nt:∀vs k,ob≠am vs k) (hl:a≠env.locals) (hc:∀v,ob.data≠.cell v):
  bV B c m φ (setN nw a o') env names vars ρ:=
 V₀.map (J1 _) (eM nn h nt) λ b o hm hn hr=>⟨au hm λ e=>by
  have e:b=a:=e
  subst e
  exact hr.elim hl (λ hr=>hr.elim λ x hx=>hc x (aM nn hm h▸hx)),hn⟩
theorem Ok.turn (o:Ok B d sc f w) {a:Addr} {ob o':Obj} (h:Pv w a ob) (nt:∀vs k,ob≠am vs k) (hl:a≠f.env.locals) (hc:∀v,ob.data≠.cell v) {s':Shared} (W':aC B f.c f.m w.σ w.φ (setN w.nw a o') s'):Ok B d sc f ⟨w.σ,w.φ,setN w.nw a o',s'⟩:=
 ⟨o.K,W',o.ev.turn o.W.R.nn h.1 nt hl hc⟩
theorem bV.drop {c:Cx} {m:Str→Option Value} {φ:bh} {nw:ad} {names:List (Str×NameKind)} {vars:List Str} {env:Env} {ρ:ax} {a:Addr} {ob:Obj} (V₀:bV B c m φ nw env names vars ρ) (nn:(nw.map (·.1)).Nodup) (h:(a,ob)∈nw) (nt:∀vs k,ob≠am vs k) (hl:a≠env.locals) (hc:∀v,ob.data≠.cell v):
  bV B c m φ (dK nw a) env names vars ρ:=
 V₀.map (J1 _) (λ x vs n hx=>aV.mpr ⟨hx,λ e=>nt vs n (aM nn h ((show x=a from e)▸hx))⟩) λ b o hm hn hr=>⟨aV.mpr ⟨hm,λ e=>by
  have e:b=a:=e
  subst e
  exact hr.elim hl (λ hr=>hr.elim λ x hx=>hc x (aM nn hm h▸hx))⟩,hn⟩
theorem Ok.drop (o:Ok B d sc f w) {a:Addr} {ob:Obj} (h:Pv w a ob) (nt:∀vs k,ob≠am vs k) (hl:a≠f.env.locals) (hc:∀v,ob.data≠.cell v) {s':Shared} (W':aC B f.c f.m w.σ w.φ (dK w.nw a) s'):Ok B d sc f ⟨w.σ,w.φ,dK w.nw a,s'⟩:=
 ⟨o.K,W',o.ev.drop o.W.R.nn h.1 nt hl hc⟩
theorem Ok.ρ {ρ':ax} (o:Ok B d sc f w) (hw:∀i v,bK ρ' i=some v→bK f.ρ i=some v):Ok B d sc {f with ρ:=ρ'} w:=
 ⟨o.K,o.W,o.ev.kind,o.ev.nm,o.ev.glob,o.ev.bi,o.ev.cl,λ i n v hn hv=>o.ev.at_ i n v hn (hw i v hv)⟩
structure Cd where
 i:Nat
 acc:List V
 us:List Value
 k:Nat
 o:Obj
 oC:Obj
 lk:Str→Option Value
structure CS (B:Bx) (d:Nat) (sc:Sc) (f:Fx) (src:sd) (D I:Addr) (w₁:Wd) (x:Cd) (w:Wd):Prop where
 ok:Ok B d sc f w
 hD:Pv w D (listOf x.us.toArray x.k)
 xD:bC B w.φ w.nw x.acc x.us
 hI:Pv w I x.o
 hO:iU B w.φ w.nw x.i x.o src
 O:cO w.φ w.nw f.env.locals x.oC x.lk
 X:w₁.le w
variable {src:sd} {D I:Addr} {w₁:Wd} {x:Cd}
theorem CS.ext (S:CS B d sc f src D I w₁ x w) {w':Wd} (o':Ok B d sc f w') (X:w.le w'):CS B d sc f src D I w₁ x w':=
 have c:=X.offs S.O.hm S.O.hn
 ⟨o',S.hD.le X,S.xD.mono S.ok.W.R X,S.hI.le X,S.hO.mono' X.pre (X.tups S.ok.W.R),⟨c.1,c.2,S.O.ns,S.O.nt⟩,S.X.trans X⟩
theorem BI (o:Ok B d sc f w) {l:List V} {i:Nat} {ob:Obj} (hO:iU B w.φ w.nw i ob src) (hs:jR w.σ l src):l.length≤aN:=by
 cases hO with
 |list x _ _=>exact hs.elim λ t hg=>(o.W.list hg x).elim λ a' k=>k.elim λ vs k=>k.elim λ j k=>k.2.2.1.length▸o.W.lenL k.2.1
 |tup x _ _=>exact (o.W.tuple o.K x).elim λ a' k=>k.elim λ vs k=>JT (J3 (congrArg List.length (show _=l from hs)).symm) k.2.2.2
 |rng _=>rw [hs.1,bG,List.length_map,List.length_range];exact Int.toNat_le.mpr (KO (Int.sub_le_self _ hs.2.1) (KO hs.2.2.2.2 (by decide)))
variable {A:Around}
theorem fG {elt target iter:Expr} {ifs:List Expr} {scope:Scope} {pos:Pos} {it acc:Value} {env:Env} {prog:Program} {w:World} {R:Result→Shared→Prop} (I:Nat→Shared→Prop)
  (turn:∀n s,I n s→∀E,wpAny (model prog w) A (pyNext it) (λ r s₁=>match r with
   |none=>R (.ok .next) s₁
   |some v=>wpAny (model prog w) A (letOwnedTupleGo target it v) (λ yy s₁'=>wpAny (model prog w) A (assign target env v) (λ yy s₂=>
     wpAny (model prog w) A (forIn ifs true λ c r=>if r=true then do let ok←isTrue c env (eval c env);pure (ForInStep.yield ok) else pure (ForInStep.yield r)) (λ ok s₃=>
      if ok=true then wpAny (model prog w) A (eval elt env) (λ x s₄=>
       wpAny (model prog w) A (call (.builtin "list.append") [acc,x]) (λ yy s₅=>∃m,m<n∧I m s₅) E s₄) E s₃
      else ∃m,m<n∧I m s₃) E s₂) E s₁') E s₁) E s)
  (n:Nat) (h:I n s):
  codeAny (model prog w) A (.compLoop (.ListComp elt [⟨target,iter,ifs,0⟩] scope pos) 0 it acc env) R s:=by
 refine codeAny_loop rfl I (λ n s hI=>?_) n h
 show wpAny _ A ((compTurn (.ListComp elt [⟨target,iter,ifs,0⟩] scope pos) 0 it acc env).onRaise (λ x=>do noteFrame x env;theTreesLotGoes x)) _ _ s
 refine wpAny_noted ?_
 rw [compTurn_list]
 refine JX (KI (JX (Kn (turn n s hI _) (λ r s₁ h₁=>?_) λ yy yy h'=>h')))
 cases r with
 |none=>exact J7 h₁
 |some v=>
  refine JX (Kn h₁ (λ yy s₁' h₁'=>?_) λ yy yy h'=>h')
  refine JX (Kn h₁' (λ yy s₂ h₂=>JX (Kn h₂ (λ ok s₃ h₃=>?_) λ yy yy h'=>h')) λ yy yy h'=>h')
  cases ok with
  |false=>exact J7 ⟨rfl,h₃⟩
  |true=>
   exact JX (JX (Kn h₃ (λ x s₄ h₄=>JX (Kn h₄ (λ yy s₅ h₅=>J7 (J7 ⟨rfl,h₅⟩)) λ yy yy h'=>h')) λ yy yy h'=>h'))
theorem vr {tg e iter:Expr} {ifs:List Expr} {scope:Scope} {pos:Pos} {elt:X} {conds:List X} {isTup:Bool} {ir:List Nat} {l:List V} {guard:St→Prop} {R:Result→Shared→Prop} {Qf:List V→St→Prop}
  (he:bk B C d sc elt e) (hc:EL B C d sc conds ifs) (ht:dg Af sc tg isTup ir) (hnd:sc.vars.Nodup) (hbase:∀j∈ir,bK f.ρ j=none) (hg:∀σ,guard σ→jR σ l src)
  (hDI:D≠I) (hDC:D≠f.env.locals) (hIC:I≠f.env.locals) (hD1:D∉w₁.nw.map (·.1)) (hI1:I∉w₁.nw.map (·.1)) (hC1:f.env.locals∉w₁.nw.map (·.1))
  (hR:∀(x:Cd) w,Qf x.acc w.σ→Ok B d sc f w→Pv w D (listOf x.us.toArray x.k)→bC B w.φ w.nw x.acc x.us→cO w.φ w.nw f.env.locals x.oC x.lk→w₁.le w→R (.ok .next) w.s)
  (h0:x.i=0) (ha:x.acc=[]) (S:CS B d sc f src D I w₁ x w)
  (q:er guard (λ v σ2 K=>tV f.ρ isTup ir v λ ρ'=>jc C conds ρ' σ2 λ b σ3=>match b with|true=>aH C elt ρ' σ3 λ y σ4=>K (some y) σ4|false=>K none σ3) l [] w.σ Qf):
  codeAny (model B.prog B.w) f.A (.compLoop (.ListComp e [⟨tg,iter,ifs,0⟩] scope pos) 0 (.ref I) (.ref D) f.env) R w.s:=by
 have hl0:∀{n:Nat},n<l.length→l.length - (n+1)<l.length - n:=λ h=>Nat.sub_succ_lt_self _ _ h
 refine fG (λ n s=>∃(x:Cd) (w:Wd),n=l.length - x.i∧x.i≤l.length∧x.acc.length≤x.i∧w.s=s∧CS B d sc f src D I w₁ x w∧
  er guard (λ v σ2 K=>tV f.ρ isTup ir v λ ρ'=>jc C conds ρ' σ2 λ b σ3=>match b with|true=>aH C elt ρ' σ3 λ y σ4=>K (some y) σ4|false=>K none σ3) (l.drop x.i) x.acc w.σ Qf) (λ n s hI E=>?_) l.length
   ⟨x,w,by rw [h0];rfl,h0▸Kw _,by rw [ha];exact Kw _,rfl,S,by rw [h0,ha];exact q⟩
 refine hI.elim λ x h=>h.elim λ w h=>?_
 obtain ⟨rfl,hil,hacc,rfl,S,q⟩:=h
 have o:=S.ok
 rcases Lu x.i l.length with hlt|hge
 ·rw [List.drop_eq_getElem_cons hlt] at q
  have hs:=hg w.σ q.1
  refine m9 o.K o.W S.hI.1 S.hI.2 S.hO hs (JZ hlt) λ u o' h' t xu W1 hO1=>?_
  have O1:cO w.φ (setN w.nw I o') f.env.locals x.oC x.lk:=⟨au S.O.hm hIC.symm,S.O.hn,S.O.ns,S.O.nt⟩
  refine kO ht (W1.inN (bt S.hI.1)) hO1.cls (ta ht hnd (o.turn S.hI S.hO.noTup hIC S.hO.noCell W1) O1 xu q.2 λ s2 oC2 lk2 ρ' q2 hj o2 O2=>?_)
  have S2:CS B d sc {f with ρ:=ρ'} src D I w₁ ⟨x.i+1,x.acc,x.us,x.k,o',oC2,lk2⟩ _:=⟨o2,⟨au (au S.hD.1 hDI) hDC,S.hD.2⟩,(S.xD.setN o.W.R.nn S.hI.1 S.hO.noTup o').setN W1.R.nn O1.hm O1.noTup oC2,
   ⟨au (bt S.hI.1) hIC,S.hI.2⟩,hO1.mono' (J1 _) (eM W1.R.nn O1.hm O1.noTup),O2,(S.X.turn hI1).turn hC1⟩
  have back:∀{x w},CS B d sc {f with ρ:=ρ'} src D I w₁ x w→CS B d sc f src D I w₁ x w:=λ {x w} S=>
   ⟨S.ok.ρ (ρ':=f.ρ) λ j v hv=>if hji:j∈ir then absurd ((hbase j hji).symm.trans hv) nofun else (hj j hji).trans hv,S.hD,S.xD,S.hI,S.hO,S.O,S.X⟩
  refine o2.seqB (hc {f with ρ:=ρ'} _ _ E o2 q2) λ b w3 q3 o3 X3=>?_
  have S3:=S2.ext o3 X3
  cases b with
  |false=>exact ⟨_,hl0 hlt,⟨x.i+1,x.acc,x.us,x.k,o',oC2,lk2⟩,w3,rfl,hlt,KQ hacc,rfl,back S3,q3⟩
  |true=>
   refine o3.seqV (he {f with ρ:=ρ'} w3 _ E o3 q3) λ y w4 uy q4 xy o4 X4=>?_
   have S4:=S3.ext o4 X4
   have hlen:=BI o S.hO hs
   have hz:x.us.length+1≤aN:=S4.xD.length▸JT (Kj hacc) (JT hlt hlen)
   have ntD:=dY x.us.toArray x.k
   refine append_at (o4.W.inN S4.hD.1) (λ h5 hs5 ho5=>?_) (by rw [sizeLine_eq];exact JT (Kx hz) (by decide))
   rw [List.push_toArray] at ho5
   have W5:=o4.W.turn S4.hD.1 S4.hD.2 ntD (o':=listOf (x.us++[uy]).toArray (x.k+1)) (by show (List.toArray _).size≤aN;rw [List.size_toArray,List.length_append];exact hz) hs5 ho5 w4.s.toks
   have kt:=eM (o':=listOf (x.us++[uy]).toArray (x.k+1)) o4.W.R.nn S4.hD.1 ntD
   exact ⟨_,hl0 hlt,⟨x.i+1,x.acc++[y],x.us++[uy],x.k+1,o',oC2,lk2⟩,_,rfl,hlt,by rw [List.length_append];exact Kj hacc,rfl,back ⟨o4.turn S4.hD ntD hDC (λ v=>nofun) W5,⟨bt S4.hD.1,S4.hD.2⟩,
    (S4.xD.append (.cons xy .nil)).mono' (J1 _) kt,S4.hI.set hDI.symm,S4.hO.mono' (J1 _) kt,⟨au S4.O.hm hDC.symm,S4.O.hn,S4.O.ns,S4.O.nt⟩,S4.X.turn hD1⟩,q4⟩
 ·have e:=Nat.le_antisymm hil hge
  rw [e,List.drop_length] at q
  exact qU o.K o.W o.K.hh S.hI.1 S.hI.2 S.hO (hg w.σ q.1) e.symm λ h' W1=>hR x ⟨w.σ,w.φ,dK w.nw I,_⟩ q.2 (o.drop S.hI S.hO.noTup hIC S.hO.noCell W1) ⟨aV.mpr ⟨S.hD.1,hDI⟩,S.hD.2⟩ (S.xD.drop' o.W.R.nn S.hI.1 S.hO.noTup) ⟨aV.mpr ⟨S.O.hm,hIC.symm⟩,S.O.hn,S.O.ns,S.O.nt⟩ (S.X.drop hI1)
end
noncomputable def ly (cells:List (Str×Addr)):List (Str×NameKind)→List (Str×Addr)→List (Str×Addr)
 |[],acc=>acc
 |(n,k)::r,acc=>if (k==.free)=true then ly cells r ((n,(cells.lookup n).getD 0)::acc) else ly cells r acc
theorem uD {env:Env}:∀(names:List (Str×NameKind)) (acc:List (Str×Addr)),(∀n,(n,NameKind.free)∈names→∃a,env.cells.lookup n=some a)→
   (forIn names acc λ (x:Str×NameKind) (r:List (Str×Addr))=>(match x with|(name,kind)=>if (kind==.free)=true then (do let __do_lift←cellOf env name;pure (ForInStep.yield ((name,__do_lift)::r))) else pure (ForInStep.yield r):Sem (ForInStep (List (Str×Addr)))))=pure (ly env.cells names acc)
 |[],acc,_=>rfl
 |(n,k)::r,acc,h=>by
  have ih:=λ acc=>uD r acc λ n hn=>h n (.tail _ hn)
  rw [List.forIn_cons]
  cases k with
  |free=>
   refine (h n (.head _)).elim λ a ha=>?_
   show (cellOf env n>>=λ c=>pure (ForInStep.yield ((n,c)::acc)))>>=_=pure (ly env.cells r ((n,(env.cells.lookup n).getD 0)::acc))
   rw [show cellOf env n=pure a by unfold cellOf;rw [ha],ha]
   exact ih _
  |_=>exact ih _
theorem lx {env:Env} {scope:Scope} (h:∀n,(n,NameKind.free)∈scope.names→∃a,env.cells.lookup n=some a):closureFor scope env=pure (ly env.cells scope.names []):=by
 unfold closureFor
 rw [bind_pure]
 exact uD scope.names [] h
theorem bx {α β:Type} [BEq α] [LawfulBEq α]:∀{l:List (α×β)} {n:α} {k:β},l.lookup n=some k→(n,k)∈l
 |[],n,k,h=>by cases h
 |(x,kx)::l,n,k,h=>by
  rw [List.lookup_cons] at h
  cases e:n==x with
  |true=>rw [e] at h;rw [beq_iff_eq.mp e,Option.some.inj h];exact .head _
  |false=>rw [e] at h;exact .tail _ (bx h)
theorem fH {cells:List (Str×Addr)} {n:Str} {a:Addr} (h2:cells.lookup n=some a):∀(names:List (Str×NameKind)) (acc:List (Str×Addr)),(acc.lookup n=some a∨(acc.lookup n=none∧(n,NameKind.free)∈names))→(ly cells names acc).lookup n=some a
 |[],acc,h=>h.elim id λ h=>absurd h.2 nofun
 |(x,k)::r,acc,h=>by
  show List.lookup n (if (k==.free)=true then _ else _)=_
  cases hk:k==.free with
  |true=>
   refine fH h2 r _ ?_
   rw [List.lookup_cons]
   cases e:n==x with
   |true=>exact .inl (by rw [←beq_iff_eq.mp e,h2];rfl)
   |false=>exact h.imp_right λ h=>⟨h.1,(KG.mp h.2).resolve_left λ q=>by rw [(Prod.mk.inj q).1,beq_self_eq_true] at e;cases e⟩
  |false=>exact fH h2 r acc (h.imp_right λ h=>⟨h.1,(KG.mp h.2).resolve_left λ q=>by rw [←(Prod.mk.inj q).2] at hk;cases hk⟩)
noncomputable def mX (k:NameKind):NameKind:=if (k==.free)=true then .cell else k
noncomputable def inner (sc:Sc) (scope:Scope) (caps:List Nat) (tn:List Str):Sc:=
 ⟨scope.names.map λ p=>(p.1,mX p.2),caps.map (λ i=>(sc.vars[i]?).getD Str.empty)++tn⟩
theorem eK {n:Str}:∀(l:List (Str×NameKind)),(l.map λ p=>(p.1,mX p.2)).lookup n=(l.lookup n).map mX
 |[]=>rfl
 |(x,k)::l=>by
  rw [List.map_cons,List.lookup_cons,List.lookup_cons]
  cases n==x with
  |true=>rfl
  |false=>exact eK l
structure vK (sc:Sc) (scope:Scope) (caps:List Nat):Prop where
 kind:scope.kind=.function
 nocell:∀y∈scope.names,y.2≠.cell
 free:∀n,(n,NameKind.free)∈scope.names→sc.names.lookup n=some .cell
 loc:∀y∈scope.names,y.2=.local→scope.names.lookup y.1=some .local
 caps:∀i∈caps,∃n,sc.vars[i]? =some n∧scope.names.lookup n=some .free
theorem eh:∀(ρ:ax) (i:Nat),bK ρ i=(ρ[i]?).bind id
 |[],_=>rfl
 |_::_,0=>rfl
 |_::r,i+1=>eh r i
theorem pP {l r:ax} {i:Nat} (h:i<l.length):bK (l++r) i=bK l i:=by rw [eh,eh,List.getElem?_append_left h]
theorem ie {n:Nat}:∀(l:ax) (i:Nat),l.length≤i→bK (l++List.replicate n none) i=none
 |[],i,_=>by
  rw [eh,List.nil_append,List.getElem?_replicate]
  by_cases h:i<n
  ·rw [if_pos h];rfl
  ·rw [if_neg h];rfl
 |_::l,0,h=>absurd h (K6 _)
 |_::l,i+1,h=>ie l i (K0 h)
section
variable {B:Bx} {C:ak} {d:Nat} {sc:Sc} {f:Fx} {w:Wd} {E:Value→Shared→Prop}
theorem sZ {scope:Scope} {caps:List Nat} {tn:List Str} {C':Addr} (S:vK sc scope caps) (o:Ok B d sc f w):
  bV B f.c f.m w.φ w.nw (compEnvC scope (ly f.env.cells scope.names []) C' f.env) (inner sc scope caps tn).names (inner sc scope caps tn).vars (caps.map (bK f.ρ)++List.replicate tn.length none):=by
 have V:=o.ev
 have hnames:(relabel scope f.env).names=scope.names.map λ p=>(p.1,mX p.2):=K7 λ p hp=>by
  obtain ⟨n,k⟩:=p
  show (if (k==.free && f.env.scope.kind==.function && f.env.kindOf n==some .cell)=true then (n,NameKind.cell) else (n,k))=(n,mX k)
  unfold mX
  cases hk:k==.free with
  |true=>
   rw [V.kind,bb V n,S.free n ((beq_iff_eq.mp hk)▸hp)];rfl
  |false=>rfl
 have hlook:∀n,scope.names.lookup n=some .free→∃a,f.env.cells.lookup n=some a∧(ly f.env.cells scope.names []).lookup n=some a:=λ n hn=>
  (V.cl n (S.free n (bx hn))).imp λ a ha=>⟨ha,fH ha _ _ (.inr ⟨rfl,bx hn⟩)⟩
 refine ⟨S.kind,hnames,V.glob,V.bi,λ n hn=>?_,λ j n v hj hv=>?_⟩
 ·
  rw [show (inner sc scope caps tn).names.lookup n=_ from eK scope.names] at hn
  cases hs:scope.names.lookup n with
  |none=>rw [hs] at hn;cases hn
  |some k=>cases k with
   |free=>exact (hlook n hs).imp λ yy h=>h.2
   |cell=>exact absurd rfl (S.nocell _ (bx hs))
   |_=>rw [hs] at hn;cases hn
 ·have hl:(caps.map (bK f.ρ)).length=caps.length:=Km _
  have hjl:j<caps.length:=(Lu j caps.length).resolve_right λ h=>by rw [ie _ _ (hl▸h)] at hv;cases hv
  refine (S.caps caps[j] (KF hjl)).elim λ n' hn=>?_
  have e:(inner sc scope caps tn).vars[j]? =some n':=by
   show (caps.map _++tn)[j]? =_
   rw [List.getElem?_append_left (by rw [List.length_map];exact hjl),List.getElem?_map,JZ hjl,Option.map_some,hn.1];rfl
  have e:=J4 (e.symm.trans hj)
  subst e
  rw [pP (hl▸hjl),eh,List.getElem?_map,List.getElem?_eq_getElem hjl] at hv
  refine (V.at_ _ n' v hn.1 hv).imp λ u x=>⟨x.1,?_⟩
  have hc:=S.free n' (bx hn.2)
  have hk:f.env.kindOf n'=some .cell:=(bb V n').trans hc
  refine (hlook n' hn.2).elim λ a ha=>?_
  have hk':(compEnvC scope (ly f.env.cells scope.names []) C' f.env).kindOf n'=some .cell:=by
   show (relabel scope f.env).names.lookup n'=_
   rw [hnames,eK,hn.2];rfl
  cases x.2 with
  |loc h1 _ _=>cases hk.symm.trans h1
  |own h1 _ _ _ _ _=>cases hk.symm.trans h1
  |free h1 _ _ _ _ _=>cases hk.symm.trans h1
  |cell h1 h2 h3 h4 h5=>exact .cell hk' (ha.2.trans (ha.1.symm.trans h2)) h3 h4 h5
end
section
variable {B:Bx} {C:ak} {d:Nat} {sc:Sc} {f:Fx} {w:Wd} {E:Value→Shared→Prop}
theorem w9 {c:Cx} {m:Str→Option Value} {σ:St} {φ:bh} {nw:ad} {s:Shared} {src:sd} {i:Nat} {I:Addr} {o:Obj} (W:aC B c m σ φ ((I,o)::nw) s) (hO:iU B φ ((I,o)::nw) i o src):I∉aB φ:=λ h=>
 (W.R.at_addr h).elim λ o2 h=>by
  have e:=aM W.R.nn h.1 (.head _)
  subst e
  refine hO.cls.elim λ n k=>k.elim λ vs k=>?_
  rcases h.2 with ⟨_,_,e⟩|⟨_,_,e⟩|⟨_,_,e⟩<;>(rw [e] at k;cases k.2.1)
theorem rq {tg e iter:Expr} {ifs:List Expr} {scope:Scope} {pos:Pos} {elt:X} {conds:List X} {isTup:Bool} {caps:List Nat} {tn:List Str} {R:Value→Addr→Result→Shared→Prop} {Qf:List V→St→Prop}
  (S:vK sc scope caps) (he:bk B C d (inner sc scope caps tn) elt e) (hc:EL B C d (inner sc scope caps tn) conds ifs) (ht:dg Af (inner sc scope caps tn) tg isTup (List.range' caps.length tn.length)) (hnd:(inner sc scope caps tn).vars.Nodup)
  (o:Ok B d sc f w) {w₁:Wd} {I:Addr} {ob:Obj} {l:List V} {guard:St→Prop} {src:sd} {s₂:Shared} (hI:I∉w₁.nw.map (·.1)) (W2:aC B f.c f.m w₁.σ w₁.φ ((I,ob)::w₁.nw) s₂) (hO:iU B w₁.φ ((I,ob)::w₁.nw) 0 ob src) (hg:∀σ,guard σ→jR σ l src) (X1:w.le w₁)
  (hR:∀D C' us k oC lk vs w',Qf vs w'.σ→aC B f.c f.m w'.σ w'.φ w'.nw w'.s→Pv w' D (listOf us.toArray k)→bC B w'.φ w'.nw vs us→cO w'.φ w'.nw C' oC lk→w₁.le w'→D∉w₁.nw.map (·.1)→C'∉w₁.nw.map (·.1)→D≠C'→R (.ref D) C' (.ok .next) w'.s)
  (q:er guard (λ v σ2 K=>tV (caps.map (bK f.ρ)++List.replicate tn.length none) isTup (List.range' caps.length tn.length) v λ ρ'=>
    jc C conds ρ' σ2 λ b σ3=>match b with
     |true=>aH C elt ρ' σ3 λ y σ4=>K (some y) σ4
     |false=>K none σ3) l [] w₁.σ Qf):
  wpAny (model B.prog B.w) f.A (newList []) (λ acc s₃=>wpAny (model B.prog B.w) f.A (newFunctionEnv scope f.env.globals (ly f.env.cells scope.names []) [] f.env.qual none .none (some f.env)) (λ cenv s₄=>
   codeAny (model B.prog B.w) f.A (.compStart (.ListComp e [⟨tg,iter,ifs,0⟩] scope pos) 0 (.ref I) acc {cenv with scope:=relabel scope f.env}) (R acc cenv.locals) s₄) E s₃) E s₂:=by
 have W3:=W2.alloc o.K (listOf [].toArray 0) (Kw _)
 have fD:=W2.fresh
 refine wpAny_newObj_type ?_
 generalize hDd:s₂.heap.objs.size=D at W3 fD
 refine wpAny_newFunctionEnv S.nocell (λ yy h=>absurd h Kf) (λ h₁ hns hsb=>(yA hns).elim λ oC hn=>?_) S.kind
 have W4:=W3.alloc o.K {cls:=.type "dict",data:=.dict #[]} (Kw _)
 have fC:=W3.fresh
 generalize hCd:({s₂ with heap:=s₂.heap.push {cls:=.type "list",data:=.seq ([]:List Value).toArray}}:Shared).heap.objs.size=C' at*
 have nC:=W3.R.off fC
 have ntC:=bw [] 0
 have ON:cO w₁.φ (setN ((C',{cls:=.type "dict",data:=.dict #[]})::(D,listOf [].toArray 0)::(I,ob)::w₁.nw) C' oC) C' oC _:=⟨bt (.head _),nC,hn.2.2,hn.2.1⟩
 have W5:=W4.turn (.head _) nC ntC ON.zero hsb hn.1 (s₂.toks+([]:List (Str×Value)).length)
 have hne:D≠C':=λ e=>fC (e▸.head _)
 have hIC:I≠C':=λ e=>fC (e▸.tail _ (.head _))
 have hDI:D≠I:=λ e=>fD (e▸.head _)
 have fD1:D∉w₁.nw.map (·.1):=λ h=>fD (.tail _ h)
 have fC1:C'∉w₁.nw.map (·.1):=λ h=>fC (.tail _ (.tail _ h))
 have kt:=eM (o':=oC) W4.R.nn (.head _) ntC
 have X2:bI w₁.φ w₁.nw w₁.φ (setN ((C',{cls:=.type "dict",data:=.dict #[]})::(D,listOf [].toArray 0)::(I,ob)::w₁.nw) C' oC):=((bI.extra.trans bI.extra).trans bI.extra).turn fC1
 let f2:Fx:=⟨f.c,f.m,f.A,compEnvC scope (ly f.env.cells scope.names []) C' f.env,caps.map (bK f.ρ)++List.replicate tn.length none⟩
 have o5:Ok B d (inner sc scope caps tn) f2 ⟨_,_,_,_⟩:=⟨o.K,W5,((sZ S o).mono o.W.R X1).monoT (λ a vs n h=>kt a vs n (.tail _ (.tail _ (.tail _ h)))) X2⟩
 have hO5:iU B w₁.φ (setN ((C',{cls:=.type "dict",data:=.dict #[]})::(D,listOf [].toArray 0)::(I,ob)::w₁.nw) C' oC) 0 ob src:=hO.mono' (J1 _) λ a vs n h=>kt a vs n (.tail _ (.tail _ h))
 have mI:(I,ob)∈setN ((C',{cls:=.type "dict",data:=.dict #[]})::(D,listOf [].toArray 0)::(I,ob)::w₁.nw) C' oC:=au (.tail _ (.tail _ (.head _))) hIC
 have loop:codeAny (model B.prog B.w) f.A (.compLoop (.ListComp e [⟨tg,iter,ifs,0⟩] scope pos) 0 (.ref I) (.ref D) f2.env) (R (.ref D) C') {s₂ with heap:=h₁,toks:=s₂.toks+([]:List (Str×Value)).length}:=
  vr (f:=f2) (x:=⟨0,[],[],0,ob,oC,_⟩) he hc ht hnd (λ j hj=>ie _ _ (JT (J3 (Km _)) (List.mem_range'_1.mp hj).1)) hg hDI hne hIC fD1 hI fC1
   (λ x w' q o' hD xD O X=>hR D C' x.us x.k x.oC x.lk x.acc w' q o'.W hD xD O X fD1 fC1 hne) rfl rfl
   ⟨o5,⟨au (.tail _ (.head _)) hne,W2.R.off fD⟩,.nil,⟨mI,w9 W2 hO⟩,hO5,ON,X2⟩ q
 exact codeAny_compStart_list loop (sP (W5.inN mI) hO5 loop)
theorem Bi {tg e iter:Expr} {ifs:List Expr} {scope:Scope} {pos:Pos} {elt it:X} {conds:List X} {isTup:Bool} {caps:List Nat} {tn:List Str}
  (S:vK sc scope caps) (hi:Ah B C d sc it iter) (hci:∀env x,foldedSetIterable iter env x=pure x) (he:bk B C d (inner sc scope caps tn) elt e) (hc:EL B C d (inner sc scope caps tn) conds ifs) (ht:dg Af (inner sc scope caps tn) tg isTup (List.range' caps.length tn.length)) (hnd:(inner sc scope caps tn).vars.Nodup):
  bk B C d sc (.comp elt caps isTup tn.length it conds) (.ListComp e [⟨tg,iter,ifs,0⟩] scope pos):=λ f w Q E o q=>by
 show wpAny _ _ (comprehension (.ListComp e [⟨tg,iter,ifs,0⟩] scope pos) scope f.env (firstIterPos [⟨tg,iter,ifs,0⟩] pos) (newList []) (firstAsync [⟨tg,iter,ifs,0⟩]) (firstIter [⟨tg,iter,ifs,0⟩] f.env)) _ _ _
 refine wpAny_comprehension_free (use:=none) rfl (hci f.env) (lx λ n hn=>o.ev.cl n (S.free n hn)) S.kind S.loc
  (Kn (hi f w _ E o q) (λ u s₁ h₁=>Kn h₁ (λ r s₂ h₂=>h₂.elim λ I h=>h.elim λ ob h=>h.elim λ l h=>h.elim λ guard h=>h.elim λ src h=>h.elim λ w1 h=>h.1▸
   rq (R:=λ acc C=>compPost (model B.prog B.w) f.A E none (PV B f w Q) acc C) S he hc ht hnd o h.2.2.1 h.2.2.2.1 h.2.2.2.2.1 h.2.2.2.2.2.1 h.2.2.2.2.2.2 (λ D C' us k oC lk vs w' q W' hD xD O X fD fC hne=>?_) h.2.1) λ yy yy e=>e) λ yy yy e=>e)
 exact ⟨lk,O.ns _ (W'.inN O.hm),λ h' hs=>(aq.regList (n:=k) (W'.drop O.hm O.hn O.noTup hs.extBut) (X.drop fC) (aV.mpr ⟨hD.1,hne⟩) fD hD.2 (xD.drop' W'.R.nn O.hm O.noTup) aa q).trans h.2.2.2.2.2.2⟩
theorem Ej:EL B C d sc [] []:=λ f w Q E o q=>wpAny_tests_nil ⟨_,_,_,q,o.W,.refl _ _⟩
theorem rr {A:Around} {env:Env} {s:Shared} {Q:Bool→Shared→Prop} (q:Q false s):∀es:List Expr,
  wpAny (model B.prog B.w) A (forIn es false λ c r=>if r=true then do let ok←isTrue c env (eval c env);pure (ForInStep.yield ok) else pure (ForInStep.yield r)) Q E s
 |[]=>J7 q
 |_::es=>by rw [List.forIn_cons];exact JX (J7 (rr q es))
theorem zT {x:X} {e:Expr} {l:List X} {es:List Expr} (hx:yH B C d sc x e) (h:EL B C d sc l es):EL B C d sc (x::l) (e::es):=λ f w Q E o q=>by
 rw [List.forIn_cons]
 refine JX (JX (o.seqB (hx f w _ E o q) λ b w1 q o1 X1=>J7 ?_))
 cases b with
 |false=>exact rr ⟨_,_,_,q,o1.W,X1⟩ _
 |true=>exact HT X1 (h f w1 Q E o1 q)
end
noncomputable abbrev ao (p:Prop):=Option (PLift p)
section
variable {p q:Prop}
theorem ao.of {c:ao p} (h:c.isSome=true):p:=(c.get h).down
noncomputable def bM (h:p):ao p:=some ⟨h⟩
noncomputable def tst (b:Bool) (k:b=true→ao p):ao p:=Bool.casesOn (motive:=λ b=>(b=true→ao p)→ao p) b (λ yy=>none) (λ k=>k rfl) k
noncomputable def ao.andT (c:ao p) (k:p→ao q):ao q:=c.bind λ h=>k h.down
noncomputable def sE (n:Nat) (e:Expr) (k:e.ctorIdx=n→ao p):ao p:=if h:e.ctorIdx=n then k h else none
end
section
variable {P:Expr→Prop}
noncomputable def fo (e:Expr) (k:∀id p,ao (P (.Name id p))):ao (P e):=sE 23 e λ h=>Expr.Name.elim (motive_1:=λ e=>ao (P e)) e h k
noncomputable def eG (e:Expr) (k:∀c n p,ao (P (.Constant c n p))):ao (P e):=sE 19 e λ h=>Expr.Constant.elim (motive_1:=λ e=>ao (P e)) e h k
noncomputable def Gw (e:Expr) (k:∀op x p,ao (P (.UnaryOp op x p))):ao (P e):=sE 3 e λ h=>Expr.UnaryOp.elim (motive_1:=λ e=>ao (P e)) e h k
noncomputable def Gz (e:Expr) (k:∀l op r p,ao (P (.BinOp l op r p))):ao (P e):=sE 2 e λ h=>Expr.BinOp.elim (motive_1:=λ e=>ao (P e)) e h k
noncomputable def Cg (e:Expr) (k:∀op l p,ao (P (.BoolOp op l p))):ao (P e):=sE 0 e λ h=>Expr.BoolOp.elim (motive_1:=λ e=>ao (P e)) e h k
noncomputable def Ik (e:Expr) (k:∀t a b p,ao (P (.IfExp t a b p))):ao (P e):=sE 5 e λ h=>Expr.IfExp.elim (motive_1:=λ e=>ao (P e)) e h k
noncomputable def Cf (e:Expr) (k:∀ks vs p,ao (P (.Dict ks vs p))):ao (P e):=sE 6 e λ h=>Expr.Dict.elim (motive_1:=λ e=>ao (P e)) e h k
noncomputable def sD (e:Expr) (k:∀x g s p,ao (P (.ListComp x g s p))):ao (P e):=sE 8 e λ h=>Expr.ListComp.elim (motive_1:=λ e=>ao (P e)) e h k
noncomputable def Gy (e:Expr) (k:∀l o r p,ao (P (.Compare l o r p))):ao (P e):=sE 15 e λ h=>Expr.Compare.elim (motive_1:=λ e=>ao (P e)) e h k
noncomputable def sF (e:Expr) (k:∀o n p,ao (P (.Attribute o n p))):ao (P e):=sE 20 e λ h=>Expr.Attribute.elim (motive_1:=λ e=>ao (P e)) e h k
noncomputable def qh (e:Expr) (k:∀o i p,ao (P (.Subscript o i p))):ao (P e):=sE 21 e λ h=>Expr.Subscript.elim (motive_1:=λ e=>ao (P e)) e h k
noncomputable def Ce (e:Expr) (k:∀l p,ao (P (.List l p))):ao (P e):=sE 24 e λ h=>Expr.List.elim (motive_1:=λ e=>ao (P e)) e h k
noncomputable def wQ (e:Expr) (k:∀l n p,ao (P (.Tuple l n p))):ao (P e):=sE 25 e λ h=>Expr.Tuple.elim (motive_1:=λ e=>ao (P e)) e h k
noncomputable def n8 (e:Expr) (k:∀a b c p,ao (P (.Slice a b c p))):ao (P e):=sE 26 e λ h=>Expr.Slice.elim (motive_1:=λ e=>ao (P e)) e h k
end
section
variable {α:Type} {P:List α→Prop} {R:Option α→Prop}
noncomputable def fj (l:List α) (k:ao (P [])):ao (P l):=List.casesOn (motive:=λ l=>ao (P l)) l k λ yy yy=>none
noncomputable def fp (l:List α) (k:∀a l,ao (P (a::l))):ao (P l):=List.casesOn (motive:=λ l=>ao (P l)) l none k
noncomputable def ei (l:List α) (k:∀a,ao (P [a])):ao (P l):=fp l λ a l=>fj (P:=λ l=>P (a::l)) l (k a)
noncomputable def wP (l:List α) (k:∀a b,ao (P [a,b])):ao (P l):=fp l λ a l=>ei (P:=λ l=>P (a::l)) l (k a)
noncomputable def gX (o:Option α) (k:ao (R none)):ao (R o):=Option.casesOn (motive:=λ o=>ao (R o)) o k λ yy=>none
noncomputable def n7 (o:Option α) (k:∀a,ao (R (some a))):ao (R o):=Option.casesOn (motive:=λ o=>ao (R o)) o none k
end
section
variable {P:Expr→Prop}
noncomputable def wS (e:Expr) (k:∀f es p,ao (P (.Call f es [] p))):ao (P e):=sE 16 e λ h=>Expr.Call.elim (motive_1:=λ e=>ao (P e)) e h λ f es kw p=>fj (P:=λ kw=>P (.Call f es kw p)) kw (k f es p)
noncomputable def kI (sc:Sc) (n:String) (e:Expr) (k:∀id q es p,cD sc n id=true→ao (P (.Call (.Name id q) es [] p))):ao (P e):=
 wS e λ f es p=>fo (P:=λ f=>P (.Call f es [] p)) f λ id q=>tst (cD sc n id) λ h=>k id q es p h
noncomputable def i3 (n:String) (e:Expr) (k:∀ob ap es p,db ob=true→(ap.endLine==p.line)=true→ao (P (.Call (.Attribute ob (Str.ofString n) ap) es [] p))):ao (P e):=
 wS e λ f es p=>sF (P:=λ f=>P (.Call f es [] p)) f λ ob nm ap=>tst (nm==Str.ofString n) λ h=>tst (db ob) λ h1=>tst (ap.endLine==p.line) λ h2=>(Kk.mp h)▸k ob ap es p h1 h2
end
section
variable (B:Bx) (C:ak) (d:Nat)
structure AX (sc:Sc) (x:X) (e:Expr):Prop where
 ev:bk B C d sc x e
 ts:yH B C d sc x e
 it:Ah B C d sc x e
structure uM (sc:Sc) (l:List X) (es:List Expr):Prop where
 ev:lU B C d sc l es
 al:∀k,HI B C d sc k l es
 bo:∀k,l≠[]→HH B C d sc k l es
 co:EL B C d sc l es
 pr:∀ks keys,da ks keys→ks.length=l.length→Hz B C d sc ks l keys es
 ns:es.all ar=true
 len:l.length=es.length
end
section
variable {B:Bx} {C:ak} {d:Nat} {sc:Sc}
theorem m8 {x:X} {e:Expr} (h:∀ρ σ Q,¬vf C x ρ σ Q):Ah B C d sc x e:=λ f w Q E o q=>(h _ _ Q q).elim
theorem m7 {x:X} {e:Expr} (h:∀ρ σ Q,¬fe C x ρ σ Q):yH B C d sc x e:=λ f w Q E o q=>(h _ _ Q q).elim
theorem xb {x:X} {e:Expr} (h:∀ρ σ Q,¬aH C x ρ σ Q):bk B C d sc x e:=λ f w Q E o q=>(h _ _ Q q).elim
theorem z2:uM B C d sc [] []:=by
 refine ⟨nR,λ yy=>EF,λ yy h=>absurd rfl h,Ej,λ ks keys hk hl=>?_,rfl,rfl⟩
 cases ks with
 |nil=>exact (show keys=[] from hk)▸BU
 |cons a b=>cases hl
theorem yt {x:X} {e:Expr} {l:List X} {es:List Expr} (hx:AX B C d sc x e) (hn:ar e=true) (h:uM B C d sc l es):uM B C d sc (x::l) (e::es):=by
 refine ⟨j4 hx.ev hn h.ev,λ k=>Ad hx.ts (h.al k),λ k yy=>?_,zT hx.ts h.co,λ ks keys hk hl=>?_,J6.mpr ⟨hn,h.ns⟩,congrArg (· +1) h.len⟩
 ·have hl:=h.len
  have hb:=h.bo k
  cases l with
  |nil=>cases es with
   |nil=>exact Ey hx.ev
   |cons=>cases hl
  |cons y l=>cases es with
   |nil=>cases hl
   |cons=>exact zZ hx.ev (hb (List.cons_ne_nil _ _))
 ·cases ks with
  |nil=>cases hl
  |cons k ks=>exact hk.elim λ kd hk=>hk.elim λ p hk=>hk.elim λ es' hk=>hk.1▸zo hx.ev (h.pr ks es' hk.2 (Lq hl))
noncomputable def rt:(ks:List String)→(es:List (Option Expr))→ao (da ks es)
 |[],es=>fj (P:=λ es=>da [] es) es (bM rfl)
 |k::ks,es=>fp (P:=λ es=>da (k::ks) es) es λ o es=>n7 (R:=λ o=>da (k::ks) (o::es)) o λ e=>eG (P:=λ e=>da (k::ks) (some e::es)) e λ c n p=>
  tst (decide (c=.str (Str.ofString k))) λ h=>(rt ks es).andT λ hk=>bM ⟨n,p,es,(J9 h)▸rfl,hk⟩
variable {P:Option NameKind→Prop}
noncomputable def lC (t:Option NameKind→Bool) (ht:∀o,t o=true→P o) (sc:Sc) (i:Nat) (id:Str):ao (Nm P sc i id):=tst (um sc i id && t (sc.names.lookup id)) λ h=>bM ⟨(kU (J6.mp h).1).1,ht _ (J6.mp h).2⟩
noncomputable def jd (t:Option NameKind→Bool) (ht:∀o,t o=true→P o) (sc:Sc):(es:List Expr)→(l:List Nat)→ao (cK P sc es l)
 |[],l=>fj (P:=λ l=>cK P sc [] l) l (bM rfl)
 |e::es,l=>fp (P:=λ l=>cK P sc (e::es) l) l λ i l=>fo (P:=λ e=>cK P sc (e::es) (i::l)) e λ id p=>(lC t ht sc i id).andT λ hn=>(jd t ht sc es l).andT λ h=>bM ⟨id,p,i,l,rfl,rfl,hn,h⟩
noncomputable def oJ (t:Option NameKind→Bool) (ht:∀o,t o=true→P o) (sc:Sc) (e:Expr) (b:Bool) (l:List Nat):ao (dg P sc e b l):=match b with
 |false=>fo (P:=λ e=>dg P sc e false l) e λ id p=>ei (P:=λ l=>dg P sc (.Name id p) false l) l λ i=>(lC t ht sc i id).andT λ h=>bM (.name h)
 |true=>wQ (P:=λ e=>dg P sc e true l) e λ es k p=>(jd t ht sc es l).andT λ h=>bM (.tup h)
noncomputable def xK (o:Option NameKind):Bool:=o==some .local
theorem rk (o:Option NameKind) (h:xK o=true):Af o:=Kk.mp h
noncomputable def aG (e:Expr):List Str:=if h:e.ctorIdx=23 then Expr.Name.elim (motive_1:=λ yy=>List Str) e h (λ id yy=>[id]) else if h:e.ctorIdx=25 then Expr.Tuple.elim (motive_1:=λ yy=>List Str) e h (λ es yy yy=>es.map λ e=>if h:e.ctorIdx=23 then Expr.Name.elim (motive_1:=λ yy=>Str) e h (λ id yy=>id) else Str.empty) else []
noncomputable def yh (sc:Sc) (scope:Scope) (caps:List Nat):ao (vK sc scope caps):=
 tst (scope.kind==.function) λ h1=>tst (scope.names.all λ p=>p.2 !=.cell && (p.2 !=.free||sc.names.lookup p.1==some .cell) && (p.2 !=.local||scope.names.lookup p.1==some .local)) λ h2=>tst (caps.all λ i=>((sc.vars[i]?).map λ n=>scope.names.lookup n)==some (some NameKind.free)) λ h3=>
  bM ⟨Kk.mp h1,λ y hy=>by
   have:=(J6.mp (J6.mp (KC.mp h2 y hy)).1).1
   exact bne_iff_ne.mp this,λ n hn=>by
   have:=(J6.mp (J6.mp (KC.mp h2 _ hn)).1).2
   exact Kk.mp this,λ y hy hl=>by
   have:=(J6.mp (KC.mp h2 y hy)).2
   rw [hl] at this
   exact Kk.mp this,λ i hi=>by
   have:=Kk.mp (KC.mp h3 i hi)
   cases hv:sc.vars[i]? with
   |none=>rw [hv] at this;cases this
   |some n=>rw [hv] at this;exact ⟨n,rfl,J4 this⟩⟩
noncomputable def kJ (e:Expr):Bool:=!Nat.beq e.ctorIdx 7
theorem i9 {e:Expr} (h:kJ e=true):∀(env:Env) (x:Value),foldedSetIterable e env x=pure x:=by
 cases e with
 |Set=>cases h
 |_=>exact λ yy yy=>rfl
end
section
variable {B:Bx} {C:ak} {d:Nat} {sc:Sc}
theorem AX.only {x:X} {e:Expr} (h:bk B C d sc x e) (h1:∀ρ σ Q,¬fe C x ρ σ Q) (h2:∀ρ σ Q,¬vf C x ρ σ Q):AX B C d sc x e:=⟨h,m7 h1,m8 h2⟩
theorem AX.val {x:X} {e:Expr} (h:bk B C d sc x e) (h1:∀ρ σ (Q:List V→(St→Prop)→St→Prop),vf C x ρ σ Q→aH C x ρ σ λ v σ1=>cq v σ1 λ l g=>Q l g σ1) (h2:∀ρ σ Q,¬fe C x ρ σ Q):AX B C d sc x e:=⟨h,m7 h2,uz h h1⟩
theorem AX.tst {x:X} {e:Expr} (h:bk B C d sc x e) (he:∀env whole,isTrue e env whole=(do let v←whole;standAt e.pos;holding [v] (truthy v))) (hp:∀ρ σ Q,fe C x ρ σ Q→aH C x ρ σ λ v σ1=>bg v σ1 λ b=>Q b σ1) (h1:Ah B C d sc x e):AX B C d sc x e:=⟨h,Ft h he hp,h1⟩
theorem EA {op:yJ} {a b:X} {o:CmpOp} {l r:Expr} {p:Pos} (h:o=oI op) (hm:(!behindInMarks o r)=true) (ha:AX B C d sc a l) (hb:AX B C d sc b r):AX B C d sc (.cmp op a b) (.Compare l [o] [r] p):=by
 subst h
 exact ⟨E6 ha.ev hb.ev (eI hm),FB ha.ev hb.ev (eI hm),m8 λ yy yy yy q=>q⟩
theorem EB {op:A6} {a b:X} {o:Operator} {l r:Expr} {p:Pos} (h:o=zY op) (ha:AX B C d sc a l) (hb:AX B C d sc b r):AX B C d sc (.bin op a b) (.BinOp l o r p):=by
 subst h
 exact .tst (E7 ha.ev hb.ev) (λ yy yy=>rfl) (λ yy yy yy q=>q) (m8 λ yy yy yy q=>q)
theorem z5 {k:Bool} {l:List X} {o:BoolOp} {es:List Expr} {p:Pos} (h:o=if k then .And else .Or) (hn:(!l.isEmpty)=true) (hl:uM B C d sc l es):AX B C d sc (.bool k l) (.BoolOp o es p):=by
 subst h
 exact ⟨Bj (hl.bo k λ e=>by rw [e] at hn;cases hn),FC (hl.al k),m8 λ yy yy yy q=>q⟩
theorem Aa {o:X} {n:String} {nm:Str} {ob:Expr} {p:Pos} (BB:bA B) (h:nm=Str.ofString n) (hn:n∈cf) (h1:db ob=true) (ho:AX B C d sc o ob):AX B C d sc (.attr o n) (.Attribute ob nm p):=by
 subst h
 exact .val (Bl BB h1 hn ho.ev) (λ yy yy yy q=>q) λ yy yy yy q=>q
theorem z4 {kd:Nat} {ks:List String} {l:List X} {keys:List (Option Expr)} {es:List Expr} {p:Pos} (h:(kd==1||ks.isEmpty)=true) (nd:(ks.map V.str).Nodup) (h15:ks.length≤15) (hk:da ks keys) (hl:ks.length=l.length) (ha:uM B C d sc l es):AX B C d sc (.dict kd ks l) (.Dict keys es p):=by
 refine .only ?_ (λ yy yy yy q=>q) (λ yy yy yy q=>q)
 have hes:=hl.trans ha.len
 have hp:=ha.pr ks keys hk hl
 cases ks with
 |nil=>
  cases es with
  |nil=>cases l with
   |nil=>exact (show keys=[] from hk)▸yO
   |cons=>cases hl
  |cons=>cases hes
 |cons k ks=>
  have e:kd=1:=(Li.mp h).elim (λ h=>Kk.mp h) nofun
  subst e
  exact Bg (hk.elim λ yy hk=>hk.elim λ yy hk=>hk.elim λ yy hk=>hk.1▸List.cons_ne_nil _ _) nd h15 hk hes hp
theorem uH {elt it:X} {caps:List Nat} {isTup:Bool} {tn:Nat} {conds:List X} {e:Expr} {g:Comprehension} {scope:Scope} {p:Pos} (h0:g.is_async=0) (hn:(aG g.target).length=tn) (S:vK sc scope caps) (hnd:(inner sc scope caps (aG g.target)).vars.Nodup) (hs:kJ g.iter=true)
  (ht:dg Af (inner sc scope caps (aG g.target)) g.target isTup (List.range' caps.length tn)) (hi:AX B C d sc it g.iter) (he:AX B C d (inner sc scope caps (aG g.target)) elt e) (hc:uM B C d (inner sc scope caps (aG g.target)) conds g.ifs):AX B C d sc (.comp elt caps isTup tn it conds) (.ListComp e [g] scope p):=by
 obtain ⟨tg,iter,ifs,a⟩:=g
 have h0:a=0:=h0
 subst h0 hn
 exact .only (Bi S hi.it (i9 hs) he.ev hc.co ht hnd) (λ yy yy yy q=>q) λ yy yy yy q=>q
theorem in_of {l:List String} {x:String} (h:l.contains x=true):x∈l:=List.contains_iff_mem.mp h
end
section
variable {B:Bx} {C:ak} {d:Nat} (BB:bA B) (hC:∀f vs σ Q,C f vs σ Q→j3 B d f vs σ Q)
noncomputable def ye (sc:Sc) (es:List Expr):ao (uM B C d sc [] es):=fj (P:=uM B C d sc []) es (bM z2)
noncomputable def yf (x:X) (l:List X) (c_x:∀sc e,ao (AX B C d sc x e)) (c_l:∀sc es,ao (uM B C d sc l es)) (sc:Sc) (es:List Expr):ao (uM B C d sc (x::l) es):=
 fp (P:=uM B C d sc (x::l)) es λ e es=>tst (ar e) λ hn=>(c_x sc e).andT λ hx=>(c_l sc es).andT λ h=>bM (yt hx hn h)
include BB hC in
noncomputable def dZ (x:X):(sc:Sc)→(e:Expr)→ao (AX B C d sc x e):=
 X.rec (motive_1:=λ x=>(sc:Sc)→(e:Expr)→ao (AX B C d sc x e)) (motive_2:=λ l=>(sc:Sc)→(es:List Expr)→ao (uM B C d sc l es))
  (loc:=λ i sc e=>fo (P:=AX B C d sc (.loc i)) e λ id p=>tst (um sc i id) λ h=>bM (.tst (Am h) (λ yy yy=>rfl) (λ yy yy yy q=>q) (uz (Am h) λ yy yy yy q=>q)))
  (gn:=λ n sc e=>fo (P:=AX B C d sc (.gn n)) e λ id p=>tst (cD sc n id) λ h=>bM (.only (HW BB h) (λ yy yy yy q=>q) λ yy yy yy q=>q))
  (int:=λ i sc e=>eG (P:=AX B C d sc (.int i)) e λ c k p=>tst (decide (c=.int i)) λ h=>bM ((J9 h)▸.only E5 (λ yy yy yy q=>q) λ yy yy yy q=>q))
  (str:=λ s sc e=>eG (P:=AX B C d sc (.str s)) e λ c k p=>tst (decide (c=.str (Str.ofString s))) λ h=>bM ((J9 h)▸.only EX (λ yy yy yy q=>q) λ yy yy yy q=>q))
  (none:=λ sc e=>eG (P:=AX B C d sc .none) e λ c k p=>tst (decide (c=.none)) λ h=>bM ((J9 h)▸.only Bb (λ yy yy yy q=>q) λ yy yy yy q=>q))
  (tt:=λ b sc e=>eG (P:=AX B C d sc (.tt b)) e λ c k p=>tst (decide (c=.bool b)) λ h=>bM ((J9 h)▸.tst HV (λ yy yy=>rfl) (λ yy yy yy q=>by show bg (.bool b) _ _;unfold bg;exact q) (m8 λ yy yy yy q=>q)))
  (neg:=λ i sc e=>Gw (P:=AX B C d sc (.neg i)) e λ op x p=>eG (P:=λ x=>AX B C d sc (.neg i) (.UnaryOp op x p)) x λ c k p'=>tst (decide (op=.USub) && decide (c=.int i)) λ h=>
   bM ((J9 (J6.mp h).1)▸(J9 (J6.mp h).2)▸.only EZ (λ yy yy yy q=>q) λ yy yy yy q=>q))
  (bin:=λ op a b c_a c_b sc e=>Gz (P:=AX B C d sc (.bin op a b)) e λ l o r p=>tst (decide (o=zY op)) λ h=>(c_a sc l).andT λ ha=>(c_b sc r).andT λ hb=>bM (EB (J9 h) ha hb))
  (cmp:=λ op a b c_a c_b sc e=>Gy (P:=AX B C d sc (.cmp op a b)) e λ l os rs p=>ei (P:=λ os=>AX B C d sc (.cmp op a b) (.Compare l os rs p)) os λ o=>ei (P:=λ rs=>AX B C d sc (.cmp op a b) (.Compare l [o] rs p)) rs λ r=>
   tst (decide (o=oI op)) λ h=>tst (!behindInMarks o r) λ hm=>(c_a sc l).andT λ ha=>(c_b sc r).andT λ hb=>bM (EA (J9 h) hm ha hb))
  (bool:=λ k l c_l sc e=>Cg (P:=AX B C d sc (.bool k l)) e λ o vs p=>tst (decide (o=if k then .And else .Or)) λ h=>tst (!l.isEmpty) λ hn=>(c_l sc vs).andT λ hl=>bM (z5 (J9 h) hn hl))
  (not_:=λ a c_a sc e=>Gw (P:=AX B C d sc (.not_ a)) e λ op x p=>tst (decide (op=.Not)) λ h=>(c_a sc x).andT λ ha=>bM ((J9 h)▸⟨xb λ yy yy yy q=>q,FA ha.ts,m8 λ yy yy yy q=>q⟩))
  (ite:=λ t a b c_t c_a c_b sc e=>Ik (P:=AX B C d sc (.ite t a b)) e λ te x y p=>(c_t sc te).andT λ ht=>(c_a sc x).andT λ ha=>(c_b sc y).andT λ hb=>bM (.only (E4 ht.ts ha.ev hb.ev) (λ yy yy yy q=>q) λ yy yy yy q=>q))
  (call:=λ f l c_l sc e=>kI (P:=AX B C d sc (.call f l)) sc f e λ id q es p hg=>tst (j9.contains f) λ hf=>(c_l sc es).andT λ hl=>bM (.tst (vP BB hC hg (in_of hf) hl.ns hl.ev) (λ yy yy=>rfl) (λ yy yy yy q=>q) (uz (vP BB hC hg (in_of hf) hl.ns hl.ev) λ yy yy yy q=>q)))
  (new:=λ c l c_l sc e=>kI (P:=AX B C d sc (.new c l)) sc c e λ id q es p hg=>tst (cI.contains c) λ hf=>(c_l sc es).andT λ hl=>bM (.only (EY BB hC hg (in_of hf) hl.ns hl.ev) (λ yy yy yy q=>q) λ yy yy yy q=>q))
  (len:=λ a c_a sc e=>kI (P:=AX B C d sc (.len a)) sc "len" e λ id q es p hg=>ei (P:=λ es=>AX B C d sc (.len a) (.Call (.Name id q) es [] p)) es λ x=>tst (ar x) λ hn=>(c_a sc x).andT λ ha=>bM (.only (E0 BB hg hn ha.ev) (λ yy yy yy q=>q) λ yy yy yy q=>q))
  (tupleOf:=λ a c_a sc e=>kI (P:=AX B C d sc (.tupleOf a)) sc "tuple" e λ id q es p hg=>ei (P:=λ es=>AX B C d sc (.tupleOf a) (.Call (.Name id q) es [] p)) es λ x=>tst (ar x) λ hn=>(c_a sc x).andT λ ha=>bM (.only (uN BB hg hn ha.ev) (λ yy yy yy q=>q) λ yy yy yy q=>q))
  (strOf:=λ a c_a sc e=>kI (P:=AX B C d sc (.strOf a)) sc "str" e λ id q es p hg=>ei (P:=λ es=>AX B C d sc (.strOf a) (.Call (.Name id q) es [] p)) es λ x=>tst (ar x) λ hn=>(c_a sc x).andT λ ha=>bM (.only (yL BB hg hn ha.ev) (λ yy yy yy q=>q) λ yy yy yy q=>q))
  (rng1:=λ a c_a sc e=>kI (P:=AX B C d sc (.rng1 a)) sc "range" e λ id q es p hg=>ei (P:=λ es=>AX B C d sc (.rng1 a) (.Call (.Name id q) es [] p)) es λ x=>tst (ar x) λ hn=>(c_a sc x).andT λ ha=>bM ⟨xb λ yy yy yy q=>q,m7 λ yy yy yy q=>q,CB BB hg hn ha.ev⟩)
  (rng2:=λ a b c_a c_b sc e=>kI (P:=AX B C d sc (.rng2 a b)) sc "range" e λ id q es p hg=>wP (P:=λ es=>AX B C d sc (.rng2 a b) (.Call (.Name id q) es [] p)) es λ x y=>tst (ar x) λ hn=>tst (ar y) λ hn'=>(c_a sc x).andT λ ha=>(c_b sc y).andT λ hb=>bM ⟨xb λ yy yy yy q=>q,m7 λ yy yy yy q=>q,Cz BB hg hn hn' ha.ev hb.ev⟩)
  (meth:=λ o n l c_o c_l sc e=>i3 (P:=AX B C d sc (.meth o n l)) n e λ ob ap es p h1 h2=>tst (decide (es.length<20)) λ h4=>(c_o sc ob).andT λ ho=>(c_l sc es).andT λ hl=>bM (.only (Bc BB hC h1 h2 (J9 h4) hl.ns ho.ev hl.ev) (λ yy yy yy q=>q) λ yy yy yy q=>q))
  (lapp:=λ o a c_o c_a sc e=>i3 (P:=AX B C d sc (.lapp o a)) "append" e λ ob ap es p h1 h2=>ei (P:=λ es=>AX B C d sc (.lapp o a) (.Call (.Attribute ob _ ap) es [] p)) es λ x=>tst (ar x) λ hn=>(c_o sc ob).andT λ ho=>(c_a sc x).andT λ ha=>bM (.only (Bf h1 h2 hn ho.ev ha.ev) (λ yy yy yy q=>q) λ yy yy yy q=>q))
  (lpop:=λ o c_o sc e=>i3 (P:=AX B C d sc (.lpop o)) "pop" e λ ob ap es p h1 h2=>fj (P:=λ es=>AX B C d sc (.lpop o) (.Call (.Attribute ob _ ap) es [] p)) es ((c_o sc ob).andT λ ho=>bM (.only (Bd h1 h2 ho.ev) (λ yy yy yy q=>q) λ yy yy yy q=>q)))
  (lindex:=λ o a c_o c_a sc e=>i3 (P:=AX B C d sc (.lindex o a)) "index" e λ ob ap es p h1 h2=>ei (P:=λ es=>AX B C d sc (.lindex o a) (.Call (.Attribute ob _ ap) es [] p)) es λ x=>tst (ar x) λ hn=>(c_o sc ob).andT λ ho=>(c_a sc x).andT λ ha=>bM (.only (vO h1 h2 hn ho.ev ha.ev) (λ yy yy yy q=>q) λ yy yy yy q=>q))
  (dget:=λ o k a c_o c_k c_a sc e=>i3 (P:=AX B C d sc (.dget o k a)) "get" e λ ob ap es p h1 h2=>wP (P:=λ es=>AX B C d sc (.dget o k a) (.Call (.Attribute ob _ ap) es [] p)) es λ x y=>tst (ar x) λ hn=>tst (ar y) λ hn'=>(c_o sc ob).andT λ ho=>(c_k sc x).andT λ hk=>(c_a sc y).andT λ ha=>bM (.only (Bh h1 h2 hn hn' ho.ev hk.ev ha.ev) (λ yy yy yy q=>q) λ yy yy yy q=>q))
  (dsetd:=λ o k a c_o c_k c_a sc e=>i3 (P:=AX B C d sc (.dsetd o k a)) "setdefault" e λ ob ap es p h1 h2=>wP (P:=λ es=>AX B C d sc (.dsetd o k a) (.Call (.Attribute ob _ ap) es [] p)) es λ x y=>tst (ar x) λ hn=>tst (ar y) λ hn'=>(c_o sc ob).andT λ ho=>(c_k sc x).andT λ hk=>(c_a sc y).andT λ ha=>bM (.only (yN h1 h2 hn hn' ho.ev hk.ev ha.ev) (λ yy yy yy q=>q) λ yy yy yy q=>q))
  (attr:=λ o n c_o sc e=>sF (P:=AX B C d sc (.attr o n)) e λ ob nm p=>tst (nm==Str.ofString n) λ h=>tst (cf.contains n) λ hn=>tst (db ob) λ h1=>(c_o sc ob).andT λ ho=>bM (Aa BB (Kk.mp h) (in_of hn) h1 ho))
  (sub:=λ o i c_o c_i sc e=>qh (P:=AX B C d sc (.sub o i)) e λ ob sl p=>tst (ii sl) λ h1=>(c_o sc ob).andT λ ho=>(c_i sc sl).andT λ hi=>bM (.val (EW h1 ho.ev hi.ev) (λ yy yy yy q=>q) λ yy yy yy q=>q))
  (slTo:=λ o i c_o c_i sc e=>qh (P:=AX B C d sc (.slTo o i)) e λ ob sl p=>n8 (P:=λ sl=>AX B C d sc (.slTo o i) (.Subscript ob sl p)) sl λ a b c p'=>gX (R:=λ a=>AX B C d sc (.slTo o i) (.Subscript ob (.Slice a b c p') p)) a
   (n7 (R:=λ b=>AX B C d sc (.slTo o i) (.Subscript ob (.Slice .none b c p') p)) b λ x=>gX (R:=λ c=>AX B C d sc (.slTo o i) (.Subscript ob (.Slice .none (some x) c p') p)) c ((c_o sc ob).andT λ ho=>(c_i sc x).andT λ hi=>bM ⟨Ba ho.ev hi.ev,m7 λ yy yy yy q=>q,Cy ho.ev hi.ev⟩)))
  (slAll:=λ o c_o sc e=>qh (P:=AX B C d sc (.slAll o)) e λ ob sl p=>n8 (P:=λ sl=>AX B C d sc (.slAll o) (.Subscript ob sl p)) sl λ a b c p'=>gX (R:=λ a=>AX B C d sc (.slAll o) (.Subscript ob (.Slice a b c p') p)) a
   (gX (R:=λ b=>AX B C d sc (.slAll o) (.Subscript ob (.Slice .none b c p') p)) b (gX (R:=λ c=>AX B C d sc (.slAll o) (.Subscript ob (.Slice .none .none c p') p)) c ((c_o sc ob).andT λ ho=>bM (.only (yM ho.ev) (λ yy yy yy q=>q) λ yy yy yy q=>q)))))
  (slFrom:=λ o k c_o sc e=>qh (P:=AX B C d sc (.slFrom o k)) e λ ob sl p=>n8 (P:=λ sl=>AX B C d sc (.slFrom o k) (.Subscript ob sl p)) sl λ a b c p'=>n7 (R:=λ a=>AX B C d sc (.slFrom o k) (.Subscript ob (.Slice a b c p') p)) a λ x=>
   gX (R:=λ b=>AX B C d sc (.slFrom o k) (.Subscript ob (.Slice (some x) b c p') p)) b (gX (R:=λ c=>AX B C d sc (.slFrom o k) (.Subscript ob (.Slice (some x) .none c p') p)) c (eG (P:=λ x=>AX B C d sc (.slFrom o k) (.Subscript ob (.Slice (some x) .none .none p') p)) x λ v n p''=>
    tst (decide (v=.int (k:Int))) λ h=>(c_o sc ob).andT λ ho=>bM ((J9 h)▸.only (vM ho.ev) (λ yy yy yy q=>q) λ yy yy yy q=>q))))
  (tup:=λ l c_l sc e=>wQ (P:=AX B C d sc (.tup l)) e λ es k p=>tst (decide (l.length≤1000)) λ h=>(c_l sc es).andT λ hl=>bM ⟨Al hl.ev (J9 h),m7 λ yy yy yy q=>q,GZ (Al hl.ev (J9 h))⟩)
  (list:=λ l c_l sc e=>Ce (P:=AX B C d sc (.list l)) e λ es p=>tst (decide (l.length≤1000)) λ h=>(c_l sc es).andT λ hl=>bM (.only (Be hl.ev (J9 h)) (λ yy yy yy q=>q) λ yy yy yy q=>q))
  (dict:=λ kd ks l c_l sc e=>Cf (P:=AX B C d sc (.dict kd ks l)) e λ keys es p=>tst (kd==1||ks.isEmpty) λ h=>tst (decide (ks.map V.str).Nodup) λ hd=>tst (decide (ks.length≤15)) λ h15=>tst (decide (ks.length=l.length)) λ hl=>(rt ks keys).andT λ hk=>(c_l sc es).andT λ ha=>
   bM (z4 h (J9 hd) (J9 h15) hk (J9 hl) ha))
  (comp:=λ elt caps isTup tn it conds c_elt c_it c_conds sc e=>sD (P:=AX B C d sc (.comp elt caps isTup tn it conds)) e λ x gs scope p=>ei (P:=λ gs=>AX B C d sc (.comp elt caps isTup tn it conds) (.ListComp x gs scope p)) gs λ g=>
   tst (decide (g.is_async=0)) λ h0=>tst (decide ((aG g.target).length=tn)) λ hn=>(yh sc scope caps).andT λ S=>tst (decide (inner sc scope caps (aG g.target)).vars.Nodup) λ hd=>tst (kJ g.iter) λ hs=>
   (oJ xK rk (inner sc scope caps (aG g.target)) g.target isTup (List.range' caps.length tn)).andT λ ht=>(c_it sc g.iter).andT λ hi=>(c_elt (inner sc scope caps (aG g.target)) x).andT λ he=>(c_conds (inner sc scope caps (aG g.target)) g.ifs).andT λ hc=>
    bM (uH (J9 h0) (J9 hn) S (J9 hd) hs ht hi he hc))
  (bad:=λ yy yy=>none)
  (nil:=ye) (cons:=yf) x
noncomputable def Eo (l:List X):(sc:Sc)→(es:List Expr)→ao (uM B C d sc l es):=l.rec ye λ x l=>yf x l (dZ BB hC x)
end
structure cL (S:List Addr) (w w':Wd):Prop where
 pre:w.φ<+:w'.φ
 kept:∀p∈w.nw,p.1∉aB w.φ→p.1∉S→p∈w'.nw
 fresh:∀a∈aB w'.φ,a∈aB w.φ∨a∉w.nw.map (·.1)
 tups:∀a vs n,(a,am vs n)∈w.nw→(a,am vs n)∈w'.nw
 cell:∀a∈S,a∈w.nw.map (·.1)→a∈w'.nw.map (·.1)
structure Jy (sc:Sc) (S:List Addr) (c:Cx) (env:Env):Prop where
 lc:env.locals=c.L
 nd:sc.vars.Nodup
 ce:∀n a,sc.names.lookup n=some .cell→env.cells.lookup n=some a→a∈S
 inj:∀n n' a,sc.names.lookup n=some .cell→sc.names.lookup n'=some .cell→env.cells.lookup n=some a→env.cells.lookup n'=some a→n=n'
 nf:∀n,sc.names.lookup n≠some .free
noncomputable def Fx.wi (f:Fx) (m:Str→Option Value) (ρ:ax):Fx:=⟨f.c,m,f.A,f.env,ρ⟩
noncomputable def lV (w:Wd) (a:Addr):Prop:=∃o x,Pv w a o∧o.data=.cell x
structure Os (B:Bx) (d:Nat) (sc:Sc) (S:List Addr) (f:Fx) (w:Wd):Prop where
 ok:Ok B d sc f w
 fn:Jy sc S f.c f.env
 at_:∀a∈S,lV w a
noncomputable abbrev LC (o:Option NameKind):Prop:=o=some .local∨o=some .cell
section
variable {B:Bx} {C:ak} {d:Nat} {sc:Sc} {S:List Addr} {f:Fx} {w w':Wd} {E:Value→Shared→Prop}
theorem cL.refl {σ:St} {s:Shared}:cL S w ⟨σ,w.φ,w.nw,s⟩:=⟨J1 _,λ yy h yy yy=>h,λ yy h=>.inl h,λ yy yy yy h=>h,λ yy yy h=>h⟩
theorem cL.trans {w'':Wd} (h:cL S w w') (k:cL S w' w''):cL S w w'':=
 ⟨h.pre.trans k.pre,λ p hp hn hS=>k.kept p (h.kept p hp hn hS) (λ ha=>(h.fresh _ ha).elim hn λ q=>q (Ke (f:=(·.1)) hp)) hS,
  λ a ha=>(k.fresh a ha).elim (h.fresh a) λ h1=>by
   by_cases q:a∈aB w.φ
   ·exact .inl q
   ·refine .inr λ hm=>h1 ?_
    by_cases hS:a∈S
    ·exact h.cell a hS hm
    ·exact (KB.mp hm).elim λ p hp=>hp.2▸Ke (f:=(·.1)) (h.kept p hp.1 (hp.2▸q) (hp.2▸hS)),
  λ a vs n hx=>k.tups _ _ _ (h.tups _ _ _ hx),λ a ha hx=>k.cell a ha (h.cell a ha hx)⟩
theorem lV.le {a:Addr} (h:lV w a) (X:w.le w'):lV w' a:=h.imp λ yy h=>h.imp λ yy h=>⟨h.1.le X,h.2⟩
theorem sG {o:Obj} {x:Option Value} (h:o.data=.cell x):∀vs n,o≠am vs n:=λ vs n e=>by rw [e] at h;cases h
theorem Os.le (o:Os B d sc S f w) (o':Ok B d sc f w') (X:w.le w'):Os B d sc S f w':=⟨o',o.fn,λ a ha=>(o.at_ a ha).le X⟩
theorem cL.of (X:w.le w') (ht:∀a vs n,(a,am vs n)∈w.nw→(a,am vs n)∈w'.nw) (hc:∀a∈S,lV w a):cL S w w':=
 ⟨X.pre,λ p hp hn yy=>X.kept p hp hn,X.fresh,ht,λ a ha hx=>(KB.mp hx).elim λ p hp=>(hc a ha).elim λ yy h=>h.elim λ yy h=>hp.2▸Ke (f:=(·.1)) (X.kept p hp.1 (hp.2▸h.1.2))⟩
theorem Os.ext (o:Os B d sc S f w) (X:w.le w'):cL S w w':=.of X (X.tups o.ok.W.R) o.at_
theorem Os.off (o:Os B d sc S f w) {I:Addr} {ob:Obj} (hI:(I,ob)∈w.nw) (hc:∀v,ob.data≠.cell v):I∉S:=λ h=>
 (o.at_ I h).elim λ o' k=>k.elim λ x k=>hc x (aM o.ok.W.R.nn k.1.1 hI▸k.2)
theorem Os.loc (o:Os B d sc S f w) {I:Addr} {ob:Obj} (hI:(I,ob)∈w.nw):I≠f.env.locals:=λ e=>(o.ok.W.N _ hI).2.1 (e.trans o.fn.lc)
theorem Os.turn (o:Os B d sc S f w) {a:Addr} {ob o':Obj} (h:Pv w a ob) (nt:∀vs k,ob≠am vs k) (hc:∀v,ob.data≠.cell v) {s':Shared} (W':aC B f.c f.m w.σ w.φ (setN w.nw a o') s'):Os B d sc S f ⟨w.σ,w.φ,setN w.nw a o',s'⟩:=
 ⟨o.ok.turn h nt (o.loc h.1) hc W',o.fn,λ b hb=>(o.at_ b hb).imp λ yy k=>k.imp λ yy k=>⟨⟨au k.1.1 λ e=>o.off h.1 hc ((show b=a from e)▸hb),k.1.2⟩,k.2⟩⟩
theorem Os.drop (o:Os B d sc S f w) {a:Addr} {ob:Obj} (h:Pv w a ob) (nt:∀vs k,ob≠am vs k) (hc:∀v,ob.data≠.cell v) {s':Shared} (W':aC B f.c f.m w.σ w.φ (dK w.nw a) s'):Os B d sc S f ⟨w.σ,w.φ,dK w.nw a,s'⟩:=
 ⟨o.ok.drop h nt (o.loc h.1) hc W',o.fn,λ b hb=>(o.at_ b hb).imp λ yy k=>k.imp λ yy k=>⟨⟨aV.mpr ⟨k.1.1,λ e=>o.off h.1 hc ((show b=a from e)▸hb)⟩,k.1.2⟩,k.2⟩⟩
theorem ub {nw:ad} {I:Addr} (hx:I∉nw.map (·.1)):∀p∈nw,p.1≠I:=λ p hp e=>hx (e▸Ke (f:=(·.1)) hp)
theorem cL.turn {I:Addr} {o':Obj} {s':Shared} (X:cL S w w') (hx:I∉w.nw.map (·.1)):cL S w ⟨w'.σ,w'.φ,setN w'.nw I o',s'⟩:=
 ⟨X.pre,λ p hp h1 h2=>au (X.kept p hp h1 h2) (ub hx p hp),X.fresh,λ a vs n h=>au (X.tups a vs n h) (ub hx _ h),λ a ha hm=>(iY w'.nw I o').symm▸X.cell a ha hm⟩
theorem cL.drop {I:Addr} {s':Shared} (X:cL S w w') (hx:I∉w.nw.map (·.1)):cL S w ⟨w'.σ,w'.φ,dK w'.nw I,s'⟩:=
 ⟨X.pre,λ p hp h1 h2=>aV.mpr ⟨X.kept p hp h1 h2,ub hx p hp⟩,X.fresh,λ a vs n h=>aV.mpr ⟨X.tups a vs n h,ub hx _ h⟩,λ a ha hm=>
  (KB.mp (X.cell a ha hm)).elim λ p hp=>KB.mpr ⟨p,aV.mpr ⟨hp.1,λ e=>hx ((hp.2.symm.trans e)▸hm)⟩,hp.2⟩⟩
theorem tY {id:Str} {i:Nat} {v:V} {u:Value} {Q:Unit→Shared→Prop} (o:Os B d sc S f w) (h:Nm LC sc i id) (x:VR B w.φ w.nw v u)
  (q:∀s' m' nw',Os B d sc S (f.wi m' (d9 f.ρ i v)) ⟨w.σ,w.φ,nw',s'⟩→cL S w ⟨w.σ,w.φ,nw',s'⟩→Q () s'):
  wpAny (model B.prog B.w) f.A (storeName f.env id u) Q E w.s:=by
 have V:=o.ok.ev
 have W:=o.ok.W
 have F:=o.fn
 have old:∀{j:Nat} {n:Str} {v':Mine.V},sc.vars[j]? =some n→bK (d9 f.ρ i v) j=some v'→(n=id∧v'=v)∨(n≠id∧∃u,VR B w.φ w.nw v' u∧gT f.c f.m w.φ w.nw f.env n u):=λ {j n v'} hj hw=>by
  by_cases e:j=i
  ·subst e;exact .inl ⟨(J4 (h.1.symm.trans hj)).symm,eE _ _ _ _ hw⟩
  ·exact .inr ⟨λ e'=>e (mZ F.nd hj (e'▸h.1)),V.at_ j n v' hj ((cB _ _ _ _ e).symm.trans hw)⟩
 rcases h.2 with hk|hk
 ·have hk':f.env.kindOf id=some .local:=(bb V id).trans hk
  refine wpAny_storeName_local hk' (F.lc▸W.F.ns) (λ h' hn hs=>?_) (by rw [V.kind];rfl)
  rw [F.lc] at hn hs
  refine q _ _ w.nw ⟨⟨o.ok.K,⟨W.F.set hn hs,W.N.set hs,W.R,W.g,W.o⟩,V.kind,V.nm,V.glob,V.bi,V.cl,λ j n v' hj hw=>?_⟩,F,o.at_⟩ .refl
  rcases old hj hw with ⟨rfl,rfl⟩|⟨hne,u',z⟩
  ·exact ⟨u,x,.loc hk' F.lc (if_pos rfl)⟩
  ·refine ⟨u',z.1,?_⟩
   cases z.2 with
   |loc h1 h2 h3=>exact .loc h1 h2 ((if_neg hne).trans h3)
   |own h1 h2 h3 h4 h5 h6=>exact absurd F.lc (W.N _ h2).2.1
   |cell h1 h2 h3 h4 h5=>exact .cell h1 h2 h3 h4 h5
   |free h1 h2 h3 h4 h5 h6=>exact .free h1 h2 h3 h4 h5 h6
 ·have hk':f.env.kindOf id=some .cell:=(bb V id).trans hk
  obtain ⟨a,ha⟩:=V.cl id hk
  have haS:=F.ce id a hk ha
  obtain ⟨ob,y,hp,hd⟩:=o.at_ a haS
  refine wpAny_storeName_cell V.kind hk' ha ⟨ob,W.inN hp.1,hd⟩ λ h' hv hs=>hv.elim λ o' hv=>?_
  have nt:=sG hd
  have kt:=eM (o':=o') W.R.nn hp.1 nt
  have W':=W.turn hp.1 hp.2 nt (by unfold mc;rw [hv.2];exact (Kw _)) hs hv.1 w.s.toks
  refine q _ f.m (setN w.nw a o') ⟨⟨o.ok.K,W',V.kind,V.nm,V.glob,V.bi,V.cl,λ j n v' hj hw=>?_⟩,F,λ b hb=>?_⟩ ⟨J1 _,λ p hp hp1 hp2=>au hp λ e=>hp2 (e▸haS),λ yy h=>.inl h,kt,λ b yy hb=>(iY w.nw a o').symm▸hb⟩
  ·rcases old hj hw with ⟨rfl,rfl⟩|⟨hne,u',z⟩
   ·exact ⟨u,x.mono' (J1 _) kt,.cell hk' ha (bt hp.1) hp.2 hv.2⟩
   ·refine ⟨u',z.1.mono' (J1 _) kt,?_⟩
    cases z.2 with
    |loc h1 h2 h3=>exact .loc h1 h2 h3
    |own h1 h2 h3 h4 h5 h6=>exact absurd F.lc (W.N _ h2).2.1
    |cell h1 h2 h3 h4 h5=>exact .cell h1 h2 (au h3 λ e=>hne (F.inj n id a ((bb V n).symm.trans h1) hk (h2.trans (congrArg some e)) ha)) h4 h5
    |free h1 h2 h3 h4 h5 h6=>exact absurd ((bb V n).symm.trans h1) (F.nf n)
  ·by_cases e:b=a
   ·subst e;exact ⟨o',some u,⟨bt hp.1,hp.2⟩,hv.2⟩
   ·exact (o.at_ b hb).imp λ yy k=>k.imp λ yy k=>⟨k.1.set e,k.2⟩
theorem oS {id:Str} {p:Pos} {i:Nat} {v:V} {u:Value} {Q:Unit→Shared→Prop} (o:Os B d sc S f w) (h:Nm LC sc i id) (x:VR B w.φ w.nw v u)
  (q:∀s' m' nw',Os B d sc S (f.wi m' (d9 f.ρ i v)) ⟨w.σ,w.φ,nw',s'⟩→cL S w ⟨w.σ,w.φ,nw',s'⟩→Q () s'):wpAny (model B.prog B.w) f.A (assign (.Name id p) f.env u) Q E w.s:=by
 show wpAny _ _ (do standAt p;bindName f.env id u) _ _ _
 unfold bindName
 exact JX (KI (JX (Kq (wpAny_point (JX (tY o h x λ s' m' nw' o' X=>wpAny_point (q s' m' nw' o' X)))))))
theorem nO:∀(es:List Expr) (l:List Nat) (vs:List V) (us:List Value) (f:Fx) (w:Wd) (Q:Unit→Shared→Prop),cK LC sc es l→vs.length=l.length→Os B d sc S f w→bC B w.φ w.nw vs us→
  (∀s' m' nw',Os B d sc S (f.wi m' (jo f.ρ l vs)) ⟨w.σ,w.φ,nw',s'⟩→cL S w ⟨w.σ,w.φ,nw',s'⟩→Q () s')→wpAny (model B.prog B.w) f.A (assignInOrder (es.map λ e=>assign e f.env) us) Q E w.s
 |[],l,vs,us,f,w,Q,h,hv,o,x,q=>by
  have h:l=[]:=h
  subst h
  exact assignInOrder_nil (q w.s f.m w.nw o .refl)
 |e::es,l,vs,us,f,w,Q,h,hv,o,x,q=>h.elim λ id h=>h.elim λ p h=>h.elim λ i h=>h.elim λ l' h=>by
  obtain ⟨rfl,rfl,hn,h⟩:=h
  cases x with
  |nil=>cases hv
  |cons x1 x2=>exact assignInOrder_cons (oS o hn x1 λ s' m' nw' o' X=>nO es l' _ _ _ _ Q h (Lq hv) o' (x2.mono' X.pre X.tups) λ s2 m2 news2 o2 X2=>q s2 m2 news2 o2 (X.trans X2))
theorem pG {tg:Expr} {isTup:Bool} {l:List Nat} {v:V} {u:Value} {k:ax→Prop} {Q:Unit→Shared→Prop} (o:Os B d sc S f w) (ht:dg LC sc tg isTup l) (x:VR B w.φ w.nw v u) (hk:tV f.ρ isTup l v k)
  (q:∀s' m' nw' ρ',k ρ'→Os B d sc S (f.wi m' ρ') ⟨w.σ,w.φ,nw',s'⟩→cL S w ⟨w.σ,w.φ,nw',s'⟩→Q () s'):wpAny (model B.prog B.w) f.A (assign tg f.env u) Q E w.s:=by
 cases ht with
 |name h=>exact oS o h x λ s' m' nw' o' X=>q s' m' nw' _ hk o' X
 |tup h=>
  exact (Fp hk).elim λ vs hk=>mQ o.ok h hk.2.1 (hk.1▸x) λ us s' x' W'=>nO _ l vs us f _ Q h hk.2.1 (o.le (o.ok.to W' (.refl _ _)) (.refl _ _)) x' λ s2 m2 news2 o2 X2=>q s2 m2 news2 _ hk.2.2 o2 ⟨X2.pre,X2.kept,X2.fresh,X2.tups,X2.cell⟩
end
inductive PY (B:Bx) (d:Nat) (sc:Sc) (S:List Addr) (f:Fx) (w:Wd) (Q:Option V→ax→St→Prop):Flow→Shared→Prop
 |next {m' ρ' w'}:Q none ρ' w'.σ→Os B d sc S (f.wi m' ρ') w'→cL S w w'→PY B d sc S f w Q .next w'.s
 |ret {v u m' ρ' w'}:Q (some v) ρ' w'.σ→VR B w'.φ w'.nw v u→Os B d sc S (f.wi m' ρ') w'→cL S w w'→PY B d sc S f w Q (.ret u) w'.s
section
variable (B:Bx) (C:ak) (d:Nat) (sc:Sc)
noncomputable def hQ (y:Y) (st:Stmt):Prop:=∀S f w Q E,Os B d sc S f w→HQ C y f.ρ w.σ Q→wpAny (model B.prog B.w) f.A (exec st f.env) (PY B d sc S f w Q) E w.s
noncomputable def gw (l:List Y) (ss:List Stmt):Prop:=∀S f w Q E,Os B d sc S f w→ah C l f.ρ w.σ Q→wpAny (model B.prog B.w) f.A (execs ss f.env) (PY B d sc S f w Q) E w.s
noncomputable def xJ:T→Bool
 | .loc _=>true
 |_=>false
noncomputable def kW:T→Bool
 | .tup _=>true
 |_=>false
structure TX (t:T) (tg:Expr):Prop where
 as:∀S f w v u Q (R:Unit→Shared→Prop) E,Os B d sc S f w→VR B w.φ w.nw v u→BL C t v f.ρ w.σ Q→(∀m' ρ' w',Q ρ' w'.σ→Os B d sc S (f.wi m' ρ') w'→cL S w w'→R () w'.s)→wpAny (model B.prog B.w) f.A (assign tg f.env u) R E w.s
 one:∀env,(assignEach [tg] env).map (·.2)=[assign tg env]
 sw:∀e env,(kW t && Nat.beq e.ctorIdx 25)=false→swappedStores [tg] e env=pure none
 sc:xJ t=false→∀a b c p n env,swapsWith (.ListComp a b c p) (some tg) n env=pure false
end
section
variable {B:Bx} {C:ak} {d:Nat} {sc:Sc} {S:List Addr} {f:Fx} {w w':Wd} {E:Value→Shared→Prop}
theorem Ok.seqU {t:Sem Unit} {s:Shared} {Q:St→Prop} {R:Unit→Shared→Prop} (o:Ok B d sc f w) (h:wpAny (model B.prog B.w) f.A t (rY B f.c f.m w.φ w.nw Q) E s)
  (k:∀w',Q w'.σ→Ok B d sc f w'→w.le w'→R () w'.s):wpAny (model B.prog B.w) f.A t R E s:=
 Kn h (λ yy s' h=>h.elim λ σ' h=>h.elim λ φ' h=>h.elim λ nw' h=>k ⟨σ',φ',nw',s'⟩ h.1 (o.to h.2.1 h.2.2) h.2.2) λ yy yy e=>e
theorem Aq {i:Nat} {id:Str} {p:Pos} (h:Nm LC sc i id):TX B C d sc (.loc i) (.Name id p):=
 ⟨λ S f w v u Q R E o x q k=>oS o h x λ s' m' nw' o' X=>k m' _ ⟨_,_,_,_⟩ q o' X,λ yy=>rfl,λ yy yy yy=>rfl,nofun⟩
theorem BD {o:X} {n:String} {nm:Str} {ob:Expr} {p:Pos} (BB:bA B) (h:nm=Str.ofString n) (hn:n∈cf) (ho:AX B C d sc o ob):TX B C d sc (.attr o n) (.Attribute ob nm p):=by
 subst h
 refine ⟨λ S f w v u Q R E os x q k=>?_,λ yy=>rfl,λ yy yy yy=>rfl,λ yy yy yy yy yy yy yy=>rfl⟩
 exact JX (Kq (os.ok.seqV (ho.ev f w _ E os.ok q) λ v1 w1 u1 q x1 o1 X1=>JX (KI (JX (Kq
  (o1.seqU (uW BB.toBxOk o1.K o1.W hn x1 (x.mono os.ok.W.R X1) q) λ w2 q o2 X2=>wpAny_release (k f.m f.ρ w2 q (os.le o2 (X1.trans X2)) (os.ext (X1.trans X2)))))))))
theorem Fz {o i:X} {ob sl:Expr} {p:Pos} (ho:AX B C d sc o ob) (hi:AX B C d sc i sl) (hs:ii sl=true):TX B C d sc (.sub o i) (.Subscript ob sl p):=by
 refine ⟨λ S f w v u Q R E os x q k=>?_,λ yy=>rfl,λ yy yy yy=>rfl,λ yy yy yy yy yy yy yy=>rfl⟩
 show wpAny _ _ (holding [u] (eval ob f.env)>>=λ ov=>holding [u,ov] (eval sl f.env)>>=λ iv=>standAt p>>=λ yy=>holding [u,ov,iv] (setItem ov iv u)>>=λ yy=>release _ []) _ _ _
 exact JX (Kq (os.ok.seqV (ho.ev f w _ E os.ok q) λ v1 w1 u1 q x1 o1 X1=>JX (Kq (o1.seqV (hi.ev f w1 _ E o1 q) λ v2 w2 u2 q x2 o2 X2=>JX (KI (JX (Kq
  (o2.seqU (uV o2.K o2.W (x1.mono o1.W.R X2) x2 (x.mono os.ok.W.R (X1.trans X2)) q) λ w3 q o3 X3=>wpAny_release (k f.m f.ρ w3 q (os.le o3 ((X1.trans X2).trans X3)) (os.ext ((X1.trans X2).trans X3)))))))))))
theorem Fv {es:List Expr} {kk:Nat} {p:Pos} {l:List Nat} (h:cK LC sc es l):TX B C d sc (.tup l) (.Tuple es kk p):=by
 refine ⟨λ S f w v u Q R E o x q k=>pG (k:=λ ρ=>Q ρ w.σ) o (.tup (k:=kk) (p:=p) h) x q λ s' m' nw' ρ' q o' X=>k m' ρ' ⟨_,_,_,_⟩ q o' X,λ yy=>rfl,λ e env he=>?_,λ yy yy yy yy yy yy yy=>rfl⟩
 cases e with
 |Tuple=>cases he
 |_=>rfl
noncomputable def oa (e:Expr):Bool:=!(Nat.beq e.ctorIdx 8||Nat.beq e.ctorIdx 9||Nat.beq e.ctorIdx 10)
theorem kj {e:Expr} (h:oa e=true):∀(t:Option Expr) (n:Nat) (env:Env),swapsWith e t n env=pure false:=by
 cases e with
 |ListComp=>cases h
 |SetComp=>cases h
 |DictComp=>cases h
 |_=>exact λ yy yy yy=>rfl
theorem wz {t:T} {x:X} {tg e:Expr} {pos:Pos} {Q:Option V→ax→St→Prop} (hT:TX B C d sc t tg) (hx:AX B C d sc x e) (h1:(kW t && Nat.beq e.ctorIdx 25)=false) (o:Os B d sc S f w) (h2:swapsWith e (some tg) pos.line f.env=pure false) (q:HQ C (.set t x) f.ρ w.σ Q):wpAny (model B.prog B.w) f.A (exec (.Assign [tg] e pos) f.env) (PY B d sc S f w Q) E w.s:=by
 show wpAny _ _ (do
  standAt pos
  if←swapsWith e (some tg) pos.line f.env then do
   evalThenUse e f.env λ v=>assignAll v ((assignEach [tg] f.env).map (·.2))
   pure .next
  else do
   let v←eval e f.env
   assignStores f.env v (←swappedStores [tg] e f.env) ((assignEach [tg] f.env).map (·.2))) _ _ _
 rw [h2,hT.sw e f.env h1,hT.one]
 exact JX (KI (JX (J7 (JX (o.ok.seqV (hx.ev f w _ E o.ok q) λ v w1 u q y o1 X1=>JX (J7
  (JX (hT.as S f w1 v u _ _ E (o.le o1 X1) y q λ m' ρ' w2 q o2 X2=>J7 (.next q o2 ((o.ext X1).trans X2))))))))))
theorem Aj {t:T} {x:X} {tg e:Expr} {pos:Pos} (hT:TX B C d sc t tg) (hx:AX B C d sc x e) (h1:(kW t && Nat.beq e.ctorIdx 25)=false) (h2:∀n env,swapsWith e (some tg) n env=pure false):hQ B C d sc (.set t x) (.Assign [tg] e pos):=λ S f w Q E o q=>wz hT hx h1 o (h2 _ _) q
theorem ES {x:X} {e:Expr} {pos:Pos} (hx:AX B C d sc x e):hQ B C d sc (.ret x) (.Return (some e) pos):=λ S f w Q E o q=>
 wpAny_Return_some (o.ok.seqV (hx.ev f w _ E o.ok q) λ v w1 u q y o1 X1=>.ret (m':=f.m) (ρ':=f.ρ) q y (o.le o1 X1) (o.ext X1))
theorem HU {x:X} {e:Expr} {pos:Pos} (hx:AX B C d sc x e) (hn:oa e=true):hQ B C d sc (.ex x) (.Expr e pos):=λ S f w Q E o q=>
 wpAny_Expr_any (o.ok.seqV (hx.ev f w _ E o.ok q) λ v w1 u q y o1 X1=>.next (m':=f.m) (ρ':=f.ρ) q (o.le o1 X1) (o.ext X1)) (by unfold interactive;rw [o.ok.ev.kind];rfl) (kj hn _ _ _)
theorem IX {o:Option V} {P:Int→Prop} (q:match o with
  |some (.int a)=>P a
  |_=>False):∃a,o=some (.int a)∧P a:=by
 cases o with
 |none=>exact q.elim
 |some v=>cases v with
  |int a=>exact ⟨a,rfl,q⟩
  |_=>exact q.elim
theorem EV {i:Nat} {id:Str} {p pos:Pos} {x:X} {e:Expr} (hi:Nm LC sc i id) (hx:AX B C d sc x e):hQ B C d sc (.aug i x) (.AugAssign (.Name id p) .Add e pos):=λ S f w Q E o q=>
 (IX (o:=bK f.ρ i) (P:=λ a=>aH C x f.ρ w.σ λ v σ1=>(match v with| .int b=>Q none (d9 f.ρ i (.int (a+b))) σ1|_=>False)) q).elim λ a q=>(o.ok.ev.at_ i id _ hi.1 q.1).elim λ u z=>by
  have z1:=z.1
  cases z1
  rename_i t
  exact wpAny_AugAssign_Name (xl o.ok.W o.ok.ev z.2 (o.ok.seqV (hx.ev f w _ E o.ok q.2) λ v w1 u q y o1 X1=>(GX (v:=v) (P:=λ b=>Q none (d9 f.ρ i (.int (a+b))) w1.σ) q).elim λ b q=>by
    have y:=q.1▸y
    cases y
    have o2:=o.le (o1.to (o1.W.tok (w1.s.toks+1)) (.refl _ _)) X1
    exact AutoIntOps.iadd_0 (tY o2 hi (.int (a+b) w1.s.toks) λ s' m' nw' o' X'=>.next (w':=⟨_,_,_,_⟩) q.2 o' ((o.ext (w':=⟨w1.σ,w1.φ,w1.nw,{w1.s with toks:=w1.s.toks+1}⟩) X1).trans X'))))
theorem PY.mono {w0:Wd} {m ρ} {Q:Option V→ax→St→Prop} {fl:Flow} {s:Shared} (X:cL S w0 w) (h:PY B d sc S (f.wi m ρ) w Q fl s):PY B d sc S f w0 Q fl s:=by
 cases h with
 |next q o Y=>exact .next q o (X.trans Y)
 |ret q x o Y=>exact .ret q x o (X.trans Y)
theorem ET {t:X} {a b:List Y} {te:Expr} {bo orl:List Stmt} {pos:Pos} (ht:AX B C d sc t te) (ha:gw B C d sc a bo) (hb:gw B C d sc b orl):hQ B C d sc (.ite t a b) (.If te bo orl pos):=λ S f w Q E o q=>
 wpAny_If (o.ok.seqB (ht.ts f w _ _ o.ok q) λ r w1 q o1 X1=>by
  have o2:=o.le o1 X1
  have fin:∀fl s,PY B d sc S f w1 Q fl s→PY B d sc S f w Q fl s:=λ yy yy h=>h.mono (m:=f.m) (ρ:=f.ρ) (o.ext X1)
  cases r with
  |true=>exact Kn (ha S f w1 Q E o2 q) fin λ yy yy e=>e
  |false=>exact Kn (hb S f w1 Q E o2 q) fin λ yy yy e=>e)
theorem A8:gw B C d sc [] []:=λ S f w Q E o q=>J7 (.next (m':=f.m) (ρ':=f.ρ) q o .refl)
theorem yK {y:Y} {st:Stmt} {l:List Y} {ss:List Stmt} (hy:hQ B C d sc y st) (h:gw B C d sc l ss):gw B C d sc (y::l) (st::ss):=λ S f w Q E o q=>
 wpAny_execs_cons (Kn (hy S f w _ E o q) (λ fl s1 hh=>by
  cases hh with
  |@next m' ρ' w1 q o1 X1=>exact Kn (h S (f.wi m' ρ') w1 Q E o1 q) (λ yy yy h=>PY.mono (f:=f) X1 h) λ yy yy e=>e
  |ret q x o1 X1=>exact .ret q x o1 X1) λ yy yy e=>e)
inductive WI (B:Bx) (d:Nat) (sc:Sc) (S:List Addr) (f:Fx) (w:Wd) (L:Nat→ax→St→Prop):Nat→Shared→Prop
 |mk {n m ρ w'}:Os B d sc S (f.wi m ρ) w'→L n ρ w'.σ→cL S w w'→WI B d sc S f w L n w'.s
theorem ER {t:X} {body:List Y} {te:Expr} {bo:List Stmt} {pos:Pos} (ht:AX B C d sc t te) (hb:gw B C d sc body bo):hQ B C d sc (.whl t body) (.While te bo [] pos):=λ S f w Q E o q=>q.elim λ n q=>
 wpAny_While (codeAny_whileLoop (WI B d sc S f w λ n ρ σ=>ik (fe C t) (ah C body) n ρ σ Q) (λ n s h=>by
  cases h with
  |@mk m ρ w1 o q X=>
  cases n with
  |zero=>exact q.elim
  |succ n=>
   exact o.ok.seqB (ht.ts (f.wi m ρ) w1 _ _ o.ok q) λ b w2 q o2 X2=>by
    cases b with
    |true=>exact Kn (hb S (f.wi m ρ) w2 _ _ (o.le o2 X2) q) (λ fl s3 h=>by
      cases h with
      |next q o3 X3=>exact ⟨n,Kc n,.mk o3 q ((X.trans (o.ext X2)).trans X3)⟩
      |ret q x o3 X3=>exact .ret q x o3 ((X.trans (o.ext X2)).trans X3)) λ yy yy e=>e
    |false=>exact J7 (.next q (o.le o2 X2) (X.trans (o.ext X2)))) n (.mk (m:=f.m) (ρ:=f.ρ) o q .refl))
end
section
variable {B:Bx} {C:ak} {d:Nat} {sc:Sc} {S:List Addr} {f:Fx} {w w₁:Wd} {E:Value→Shared→Prop}
inductive FI (B:Bx) (d:Nat) (sc:Sc) (S:List Addr) (f:Fx) (w₁:Wd) (I:Addr) (src:sd) (l:List V) (L:List V→ax→St→Prop):Nat→Shared→Prop
 |mk {i m ρ w' o}:i≤l.length→Os B d sc S (f.wi m ρ) w'→Pv w' I o→iU B w'.φ w'.nw i o src→L (l.drop i) ρ w'.σ→cL S w₁ w'→FI B d sc S f w₁ I src l L (l.length - i) w'.s
theorem xT {tg:Expr} {isTup:Bool} {ir:List Nat} {body:List Y} {bo:List Stmt} {guard:St→Prop} {Q:Option V→ax→St→Prop} {R:Result→Shared→Prop} {l:List V} {src:sd} {I:Addr} (ht:dg LC sc tg isTup ir) (hb:gw B C d sc body bo)
  (hI:I∉w₁.nw.map (·.1)) (hg:∀σ,guard σ→jR σ l src) (h1:∀m ρ w',Q none ρ w'.σ→Os B d sc S (f.wi m ρ) w'→cL S w₁ w'→R (.ok .next) w'.s)
  (h2:∀v u m ρ w',Q (some v) ρ w'.σ→VR B w'.φ w'.nw v u→Os B d sc S (f.wi m ρ) w'→cL S w₁ w'→R (.ok (.ret u)) w'.s) {n:Nat} {s:Shared}
  (h:FI B d sc S f w₁ I src l (λ l ρ σ=>c2 guard (λ v ρ' σ2 K=>tV ρ' isTup ir v λ ρ''=>ah C body ρ'' σ2 K) l ρ σ Q) n s):
  codeAny (model B.prog B.w) f.A (.forLoop tg (.ref I) bo [] f.env) R s:=by
 refine codeAny_forLoop_any _ (λ n s hInv=>?_) n h
 cases hInv with
 |@mk i m ρ w o hil os hI2 hO q X=>
 have W:=os.ok.W
 rcases Lu i l.length with hlt|hge
 ·rw [List.drop_eq_getElem_cons hlt] at q
  exact m9 os.ok.K W hI2.1 hI2.2 hO (hg w.σ q.1) (JZ hlt) λ u o' h' t xu W3 hO3=>kO ht (W3.inN (bt hI2.1)) hO3.cls
   (pG (os.turn hI2 hO.noTup hO.noCell W3) ht xu q.2 λ s4 m4 news4 ρ4 q o4 X4=>Kn (hb S (f.wi m4 ρ4) ⟨_,_,news4,s4⟩ _ _ o4 q) (λ fl s5 h=>by
    have IS:=os.off hI2.1 hO.noCell
    have hI4:Pv ⟨w.σ,w.φ,news4,s4⟩ I o':=⟨X4.kept _ (bt hI2.1) hI2.2 IS,hI2.2⟩
    have X14:=(X.turn (o':=o') (s':={w.s with heap:=h',toks:=t}) hI).trans X4
    cases h with
    |next q o5 X5=>
     exact ⟨_,Nat.sub_succ_lt_self _ _ hlt,.mk hlt o5 ⟨X5.kept _ hI4.1 hI4.2 IS,λ ha=>(X5.fresh _ ha).elim hI4.2 λ q=>q (Ke (f:=(·.1)) hI4.1)⟩ ((hO3.mono' (J1 _) X4.tups).mono' X5.pre X5.tups) q (X14.trans X5)⟩
    |ret q x o5 X5=>exact h2 _ _ _ _ _ q x o5 (X14.trans X5)) λ yy yy e=>e)
 ·have e:=Nat.le_antisymm hil hge
  rw [e,List.drop_length] at q
  exact qU os.ok.K W os.ok.K.hh hI2.1 hI2.2 hO (hg w.σ q.1) e.symm λ h' W3=>J7 (h1 m ρ ⟨w.σ,w.φ,_,_⟩ q.2 (os.drop hI2 hO.noTup hO.noCell W3) (X.drop hI))
theorem EU {isTup:Bool} {ir:List Nat} {it:X} {body:List Y} {tg iter:Expr} {bo:List Stmt} {pos:Pos} (ht:dg LC sc tg isTup ir) (hs:kJ iter=true) (hi:AX B C d sc it iter) (hb:gw B C d sc body bo):
  hQ B C d sc (.for_ isTup ir it body) (.For tg iter bo [] pos):=λ S f w Q E o q=>
 wpAny_For (Kn (hi.it f w _ E o.ok q) (λ u s₁ h₁=>Kn h₁ (λ r s₂ h₂=>h₂.elim λ I h=>h.elim λ ob h=>h.elim λ l h=>h.elim λ guard h=>h.elim λ src h=>h.elim λ w1 h=>h.1▸by
  have X1:=h.2.2.2.2.2.2
  have X0:=o.ext X1
  have o1:=o.le (o.ok.to h.2.2.2.1 (X1.trans bI.extra)) (X1.trans bI.extra)
  exact xT (w₁:=w1) ht hb h.2.2.1 h.2.2.2.2.2.1 (λ m ρ w' q o X=>.next q o (X0.trans X)) (λ v u m ρ w' q x o X=>.ret q x o (X0.trans X))
   (.mk (m:=f.m) (ρ:=f.ρ) (w':=⟨w1.σ,w1.φ,(I,ob)::w1.nw,s₂⟩) (Kw _) o1 ⟨.head _,w9 h.2.2.2.1 h.2.2.2.2.1⟩ h.2.2.2.2.1 h.2.1 ⟨J1 _,λ p hp yy yy=>.tail _ hp,λ yy h=>.inl h,λ yy yy yy h=>.tail _ h,λ a yy h=>.tail _ h⟩)) λ yy yy e=>e) λ yy yy e=>e) (i9 hs f.env)
theorem Ia {c:Cx} {m:Str→Option Value} {σ:St} {φ φ₀:bh} {nw news₀:ad} {s:Shared} {a:Addr} {us:List Value} {n:Nat} {vs:List Mine.V} (W:aC B c m σ φ nw s) (X:bI φ₀ news₀ φ nw) (hm:(a,listOf us.toArray n)∈nw) (hf:a∉news₀.map (·.1)) (ho:a∉aB φ)
  (x:bC B φ nw vs us) (t:Tg):aC B c m (σ.new (.list t vs)) (φ++[(a,none)]) nw s∧VR B (φ++[(a,none)]) nw (.ref σ.len) (.ref a)∧bI φ₀ news₀ (φ++[(a,none)]) nw:=
 ⟨⟨W.F,W.N,W.R.reg (.list hm (x.mono' (Ku _ _) λ yy yy yy h=>h)) (Kl.mpr ⟨ho,λ yy h=>absurd h Kf⟩) (KE.mpr ⟨Kf,KL⟩),W.g,W.o⟩,.ref (W.last _),X.reg (Kl.mpr ⟨hf,λ yy h=>absurd h Kf⟩)⟩
theorem A9 {i:Nat} {id:Str} {pn:Pos} {elt it:X} {caps:List Nat} {isTup:Bool} {tn:List Str} {conds:List X} {tg e iter:Expr} {ifs:List Expr} {scope:Scope} {p pos:Pos} (hn:Nm LC sc i id)
  (Sc:vK sc scope caps) (hi:AX B C d sc it iter) (hs:kJ iter=true) (he:AX B C d (inner sc scope caps tn) elt e) (hc:uM B C d (inner sc scope caps tn) conds ifs) (ht:dg Af (inner sc scope caps tn) tg isTup (List.range' caps.length tn.length)) (hnd:(inner sc scope caps tn).vars.Nodup)
  (hx:AX B C d sc (.comp elt caps isTup tn.length it conds) (.ListComp e [⟨tg,iter,ifs,0⟩] scope p)):hQ B C d sc (.set (.loc i) (.comp elt caps isTup tn.length it conds)) (.Assign [.Name id pn] (.ListComp e [⟨tg,iter,ifs,0⟩] scope p) pos):=λ S f w Q E o q=>by
 have sw:∃b,swapsWith (.ListComp e [⟨tg,iter,ifs,0⟩] scope p) (some (.Name id pn)) pos.line f.env=pure b:=⟨_,rfl⟩
 refine sw.elim λ b hb=>?_
 cases b with
 |false=>exact wz (Aq hn) hx rfl o hb q
 |true=>
  show wpAny _ _ (do
   standAt pos
   if←swapsWith (.ListComp e [⟨tg,iter,ifs,0⟩] scope p) (some (.Name id pn)) pos.line f.env then do
    evalThenUse (.ListComp e [⟨tg,iter,ifs,0⟩] scope p) f.env λ v=>assignAll v [assign (.Name id pn) f.env]
    pure Flow.next
   else do
    let v←eval (.ListComp e [⟨tg,iter,ifs,0⟩] scope p) f.env
    assignStores f.env v (←swappedStores [.Name id pn] (.ListComp e [⟨tg,iter,ifs,0⟩] scope p) f.env) [assign (.Name id pn) f.env]) _ _ _
  rw [hb]
  refine JX (KI (JX (J7 (JX ?_))))
  show wpAny _ _ (do let _←comprehension (.ListComp e [⟨tg,iter,ifs,0⟩] scope p) scope f.env (firstIterPos [⟨tg,iter,ifs,0⟩] p) (newList []) (firstAsync [⟨tg,iter,ifs,0⟩]) (firstIter [⟨tg,iter,ifs,0⟩] f.env) (some λ v=>assignAll v [assign (.Name id pn) f.env])) _ _ _
  refine JX (wpAny_comprehension_free (use:=some λ v=>assignAll v [assign (.Name id pn) f.env]) rfl (i9 hs f.env) (lx λ n hn=>o.ok.ev.cl n (Sc.free n hn)) Sc.kind Sc.loc
   (Kn (hi.it f w _ E o.ok q) (λ u s₁ h₁=>Kn h₁ (λ r s₂ h₂=>h₂.elim λ I h=>h.elim λ ob h=>h.elim λ l h=>h.elim λ guard h=>h.elim λ src h=>h.elim λ w1 h=>h.1▸
    rq (R:=λ acc C'=>compPost (model B.prog B.w) f.A E (some λ v=>assignAll v [assign (.Name id pn) f.env]) _ acc C') Sc he.ev hc.co ht hnd o.ok h.2.2.1 h.2.2.2.1 h.2.2.2.2.1 h.2.2.2.2.2.1 h.2.2.2.2.2.2 (λ D C' us k oC lk vs w' q W' hD xD O X fD fC hne=>?_) h.2.1) λ yy yy e=>e) λ yy yy e=>e))
  have X1:=h.2.2.2.2.2.2
  have r:=Ia W' X hD.1 fD hD.2 xD aa
  have o3:=o.le (o.ok.to r.1 (X1.trans r.2.2)) (X1.trans r.2.2)
  have Ca:C'∉aB (w'.φ++[(D,none)]):=by
   rw [eV]
   exact λ h=>(KY.mp h).elim O.hn λ h=>hne (Ko.mp h).symm
  show wpAny _ _ (assign (.Name id pn) f.env (.ref D)) _ _ _
  exact oS (w:=⟨w'.σ.new (.list aa vs),w'.φ++[(D,none)],w'.nw,w'.s⟩) o3 hn r.2.1 λ s2 m' news2 o2 X2=>by
   have hm2:Pv ⟨_,_,news2,s2⟩ C' oC:=⟨X2.kept _ O.hm Ca (o3.off O.hm O.noCell),Ca⟩
   have Xs:cL S w1 ⟨w'.σ.new (.list aa vs),w'.φ++[(D,none)],w'.nw,w'.s⟩:=.of r.2.2 (λ a vs n k=>r.2.2.kept _ k (h.2.2.2.1.R.tup_off (.tail _ k))) λ a ha=>(o.at_ a ha).le X1
   exact ⟨lk,O.ns _ (o2.ok.W.inN hm2.1),λ h' hs=>J7 (J7 (.next (w':=⟨_,_,dK news2 C',_⟩) q (o2.drop hm2 O.noTup O.noCell (o2.ok.W.drop hm2.1 Ca O.noTup hs.extBut)) ((o.ext X1).trans ((Xs.trans X2).drop fC))))⟩
end
section
variable {α:Type} {P:Stmt→Prop} {p:Prop}
noncomputable def Cc (n:Nat) (e:Stmt) (k:e.ctorIdx=n→ao p):ao p:=if h:e.ctorIdx=n then k h else none
noncomputable def sQ (o:Option NameKind):Bool:=o==some .local||o==some .cell
theorem gp (o:Option NameKind) (h:sQ o=true):LC o:=(Li.mp h).imp (λ h=>Kk.mp h) λ h=>Kk.mp h
end
section
variable {B:Bx} {C:ak} {d:Nat} (BB:bA B) (hC:∀f vs σ Q,C f vs σ Q→j3 B d f vs σ Q)
noncomputable def AP (sc:Sc) (t:T) (tg:Expr):ao (TX B C d sc t tg):=match t with
 | .loc i=>fo (P:=TX B C d sc (.loc i)) tg λ id p=>(lC sQ gp sc i id).andT λ h=>bM (Aq h)
 | .attr o n=>sF (P:=TX B C d sc (.attr o n)) tg λ ob nm p=>tst (nm==Str.ofString n) λ h=>tst (cf.contains n) λ hn=>(dZ BB hC o sc ob).andT λ ho=>bM (BD BB (Kk.mp h) (in_of hn) ho)
 | .sub o i=>qh (P:=TX B C d sc (.sub o i)) tg λ ob sl p=>tst (ii sl) λ hs=>(dZ BB hC o sc ob).andT λ ho=>(dZ BB hC i sc sl).andT λ hi=>bM (Fz ho hi hs)
 | .tup l=>wQ (P:=TX B C d sc (.tup l)) tg λ es k p=>(jd sQ gp sc es l).andT λ h=>bM (Fv h)
noncomputable def Hl (sc:Sc) (i:Nat) (x:X) (tg e:Expr) (pos:Pos):ao (hQ B C d sc (.set (.loc i) x) (.Assign [tg] e pos)):=if h:x.ctorIdx=31 then X.comp.elim (motive_1:=λ x=>ao (hQ B C d sc (.set (.loc i) x) (.Assign [tg] e pos))) x h λ elt caps isTup tn it conds=>
  fo (P:=λ tg=>hQ B C d sc (.set (.loc i) (.comp elt caps isTup tn it conds)) (.Assign [tg] e pos)) tg λ id pn=>(lC sQ gp sc i id).andT λ hn=>
  sD (P:=λ e=>hQ B C d sc (.set (.loc i) (.comp elt caps isTup tn it conds)) (.Assign [.Name id pn] e pos)) e λ x gs scope p=>ei (P:=λ gs=>hQ B C d sc (.set (.loc i) (.comp elt caps isTup tn it conds)) (.Assign [.Name id pn] (.ListComp x gs scope p) pos)) gs λ g=>
   tst (decide (g.is_async=0)) λ h0=>tst (decide ((aG g.target).length=tn)) λ hl=>(yh sc scope caps).andT λ S=>tst (decide (inner sc scope caps (aG g.target)).vars.Nodup) λ hd=>tst (kJ g.iter) λ hs=>
   (oJ xK rk (inner sc scope caps (aG g.target)) g.target isTup (List.range' caps.length tn)).andT λ ht=>(dZ BB hC it sc g.iter).andT λ hi=>(dZ BB hC elt (inner sc scope caps (aG g.target)) x).andT λ he=>(Eo BB hC conds (inner sc scope caps (aG g.target)) g.ifs).andT λ hc=>
    bM (by
     have h0:=J9 h0
     have hl:=J9 hl
     have hd:=J9 hd
     obtain ⟨tg,iter,ifs,a⟩:=g
     have h0:a=0:=h0
     subst h0 hl
     exact A9 hn S hi hs he hc ht hd (uH rfl rfl S hd hs ht hi he hc))
 else none
noncomputable def zV (t:T) (x:X) (sc:Sc) (tg e:Expr) (p:Pos):ao (hQ B C d sc (.set t x) (.Assign [tg] e p)):=
   match oa e,(λ h=>kj (e:=e) h),t with
   |false,_,.loc i=>Hl BB hC sc i x tg e p
   |false,_,t=>(AP BB hC sc t tg).andT λ hT=>tst (!xJ t) λ hl=>sD (P:=λ e=>hQ B C d sc (.set t x) (.Assign [tg] e p)) e λ a b c q=>(dZ BB hC x sc (.ListComp a b c q)).andT λ hx=>bM (Aj hT hx (by cases kW t<;>rfl) λ n env=>hT.sc (eI hl) a b c q n env)
   |true,sw,t=>(AP BB hC sc t tg).andT λ hT=>tst (!(kW t && Nat.beq e.ctorIdx 25)) λ ht=>(dZ BB hC x sc e).andT λ hx=>bM (Aj hT hx (eI ht) λ n env=>sw rfl _ n env)
noncomputable def En (y:Y) (l:List Y) (c_y:∀sc st,ao (hQ B C d sc y st)) (c_l:∀sc ss,ao (gw B C d sc l ss)) (sc:Sc) (ss:List Stmt):ao (gw B C d sc (y::l) ss):=
 fp (P:=gw B C d sc (y::l)) ss λ s ss=>(c_y sc s).andT λ hy=>(c_l sc ss).andT λ h=>bM (yK hy h)
include BB hC in
noncomputable def Em (l:List Y):(sc:Sc)→(ss:List Stmt)→ao (gw B C d sc l ss):=
 Y.rec_1 (motive_1:=λ y=>(sc:Sc)→(st:Stmt)→ao (hQ B C d sc y st)) (motive_2:=λ l=>(sc:Sc)→(ss:List Stmt)→ao (gw B C d sc l ss))
  (ex:=λ x sc st=>Cc 24 st λ h=>Stmt.Expr.elim (motive_2:=λ st=>ao (hQ B C d sc (.ex x) st)) st h λ e p=>tst (oa e) λ hn=>(dZ BB hC x sc e).andT λ hx=>bM (HU hx hn))
  (set:=λ t x sc st=>Cc 5 st λ h=>Stmt.Assign.elim (motive_2:=λ st=>ao (hQ B C d sc (.set t x) st)) st h λ tgs e p=>ei (P:=λ tgs=>hQ B C d sc (.set t x) (.Assign tgs e p)) tgs λ tg=>zV BB hC t x sc tg e p)
  (aug:=λ i x sc st=>Cc 7 st λ h=>Stmt.AugAssign.elim (motive_2:=λ st=>ao (hQ B C d sc (.aug i x) st)) st h λ tg op e p=>fo (P:=λ tg=>hQ B C d sc (.aug i x) (.AugAssign tg op e p)) tg λ id q=>tst (decide (op=.Add)) λ ho=>(lC sQ gp sc i id).andT λ hi=>(dZ BB hC x sc e).andT λ hx=>bM ((J9 ho)▸EV hi hx))
  (ret:=λ x sc st=>Cc 3 st λ h=>Stmt.Return.elim (motive_2:=λ st=>ao (hQ B C d sc (.ret x) st)) st h λ v p=>n7 (R:=λ v=>hQ B C d sc (.ret x) (.Return v p)) v λ e=>(dZ BB hC x sc e).andT λ hx=>bM (ES hx))
  (ite:=λ t a b c_a c_b sc st=>Cc 12 st λ h=>Stmt.If.elim (motive_2:=λ st=>ao (hQ B C d sc (.ite t a b) st)) st h λ te bo orl p=>(dZ BB hC t sc te).andT λ ht=>(c_a sc bo).andT λ ha=>(c_b sc orl).andT λ hb=>bM (ET ht ha hb))
  (for_:=λ isTup l it body c_body sc st=>Cc 9 st λ h=>Stmt.For.elim (motive_2:=λ st=>ao (hQ B C d sc (.for_ isTup l it body) st)) st h λ tg iter bo orl p=>fj (P:=λ orl=>hQ B C d sc (.for_ isTup l it body) (.For tg iter bo orl p)) orl
   (tst (kJ iter) λ hs=>(oJ sQ gp sc tg isTup l).andT λ ht=>(dZ BB hC it sc iter).andT λ hi=>(c_body sc bo).andT λ hb=>bM (EU ht hs hi hb)))
  (whl:=λ t body c_body sc st=>Cc 11 st λ h=>Stmt.While.elim (motive_2:=λ st=>ao (hQ B C d sc (.whl t body) st)) st h λ te bo orl p=>fj (P:=λ orl=>hQ B C d sc (.whl t body) (.While te bo orl p)) orl ((dZ BB hC t sc te).andT λ ht=>(c_body sc bo).andT λ hb=>bM (ER ht hb)))
  (bad:=λ sc st=>bM λ S f w Q E o q=>q.elim)
  (nil:=λ sc ss=>fj (P:=gw B C d sc []) ss (bM A8)) (cons:=En) l
end
section
variable {ko:Str→Option NameKind}
theorem nJ:∀(ps:List Str) (us:List Value) (m:Str→Option Value) (n:Str),n∉ps→bindL ko (ps.zip us) m n=m n
 |[],_,_,_,_=>rfl
 |_::_,[],_,_,_=>rfl
 |p::ps,u::us,m,n,h=>(nJ ps us _ n λ e=>h (.tail _ e)).trans (by
  by_cases hk:ko p=some .local
  ·rw [if_pos hk];exact if_neg λ e:n=p=>h (e▸.head _)
  ·rw [if_neg hk])
theorem nK:∀(ps:List Str) (us:List Value) (m:Str→Option Value) (n:Str),n∉ps→bindC ko (ps.zip us) m n=m n
 |[],_,_,_,_=>rfl
 |_::_,[],_,_,_=>rfl
 |p::ps,u::us,m,n,h=>(nK ps us _ n λ e=>h (.tail _ e)).trans (by
  by_cases hk:ko p=some .local
  ·rw [if_pos hk]
  ·rw [if_neg hk];exact if_neg λ e:n=p=>h (e▸.head _))
theorem rE {n:Str} {u:Value} (hk:ko n=some .local):∀(ps:List Str) (us:List Value) (m:Str→Option Value) (j:Nat),ps.Nodup→ps[j]? =some n→us[j]? =some u→bindL ko (ps.zip us) m n=some u
 |[],_,_,_,_,h,_=>by cases h
 |_::_,[],_,_,_,_,h=>by cases h
 |p::ps,x::us,m,0,nd,h1,h2=>by
  have h1:p=n:=J4 h1
  have h2:x=u:=J4 h2
  subst h1 h2
  exact (nJ ps us _ _ (KE.mp nd).1).trans (by rw [if_pos hk];exact if_pos rfl)
 |p::ps,x::us,m,j+1,nd,h1,h2=>rE hk ps us _ j (KE.mp nd).2 h1 h2
theorem rF {n:Str} {u:Value} (hk:ko n≠some .local):∀(ps:List Str) (us:List Value) (m:Str→Option Value) (j:Nat),ps.Nodup→ps[j]? =some n→us[j]? =some u→bindC ko (ps.zip us) m n=some u
 |[],_,_,_,_,h,_=>by cases h
 |_::_,[],_,_,_,_,h=>by cases h
 |p::ps,x::us,m,0,nd,h1,h2=>by
  have h1:p=n:=J4 h1
  have h2:x=u:=J4 h2
  subst h1 h2
  exact (nK ps us _ _ (KE.mp nd).1).trans (by rw [if_neg hk];exact if_pos rfl)
 |p::ps,x::us,m,j+1,nd,h1,h2=>rF hk ps us _ j (KE.mp nd).2 h1 h2
end
theorem ee:∀(names:List (Str×NameKind)) (n:Nat) (acc:List (Str×Addr)),(∀p∈acc,p.2<n)→(acc.map (·.2)).Nodup→((cellsFrom n names acc).map (·.2)).Nodup∧∀p∈cellsFrom n names acc,p∈acc∨n≤p.2
 |[],n,acc,h1,h2=>⟨h2,λ p hp=>.inl hp⟩
 |(x,k)::r,n,acc,h1,h2=>by
  show ((if (k==.cell)=true then cellsFrom (n+1) r ((x,n)::acc) else cellsFrom n r acc).map _).Nodup∧∀p∈(if (k==.cell)=true then cellsFrom (n+1) r ((x,n)::acc) else cellsFrom n r acc),_
  cases k==.cell with
  |true=>
   have i:=ee r (n+1) ((x,n)::acc) (Kl.mpr ⟨Kc _,λ p hp=>Kr (h1 p hp)⟩)
    (KE.mpr ⟨λ hm=>(KB.mp hm).elim λ p hp=>J5 (h1 p hp.1) hp.2,h2⟩)
   exact ⟨i.1,λ p hp=>(i.2 p hp).elim (λ hb=>(KG.mp hb).elim (λ e=>.inr (e▸Kd _)) .inl) λ hb=>.inr (Kx hb)⟩
  |false=>exact ee r n acc h1 h2
section
variable {B:Bx} {σ:St} {φ:bh} {nw:ad} {cm:Str→Option Value}
theorem tc {cs:List (Str×Addr)} {cells:ad} (h:CellsAre cm cs cells):cells.map (·.1)=cs.map (·.2):=by
 induction h with
 |nil=>rfl
 |cons _ _ ih=>exact congrArg (List.cons _) ih
theorem vv {cs:List (Str×Addr)} {cells:ad} (h:CellsAre cm cs cells):∀n c,(n,c)∈cs→∃o,(c,o)∈cells∧o.data=.cell (cm n):=by
 induction h with
 |nil=>exact λ yy yy h=>absurd h Kf
 |cons hd _ ih=>
  intro n c hm
  rcases KG.mp hm with e|hm
  ·cases e;exact ⟨_,.head _,hd⟩
  ·exact (ih n c hm).imp λ o k=>⟨.tail _ k.1,k.2⟩
theorem lD {cs:List (Str×Addr)} {cells:ad} (h:CellsAre cm cs cells):∀p∈cells,∃x,p.2.data=.cell x:=by
 induction h with
 |nil=>exact λ yy h=>absurd h Kf
 |cons hd _ ih=>exact Kl.mpr ⟨⟨_,hd⟩,ih⟩
theorem nE (R:fY B σ φ nw):∀(cells:ad),(cells.map (·.1)).Nodup→(∀p∈cells,p.1∉nw.map (·.1)∧mc p.2≤aN∧(p.1==sysModules)=false)→fY B σ φ (cells++nw)
 |[],_,_=>R
 |p::r,nd,h=>by
  have hp:=h p (.head _)
  have nd:=KE.mp nd
  exact (nE R r nd.2 λ q hq=>h q (.tail _ hq)).extra (λ k=>by rw [List.map_append] at k;exact (KY.mp k).elim nd.1 hp.1) hp.2.1 hp.2.2
end
structure r9 (B:Bx) (C:ak) (d:Nat) (fa:Addr) (sc:Sc) (ps:List Str) (ys:List Y) (oc:Value) (od:Option Addr) (osl:Array (Option Value)) (name qual:Str) (args:List Arg) (body:List Stmt) (scope:Scope) (kV doc pm cdv ct:Value) (an:Option Addr):Prop where
 at_:B.K.lookup fa=some ⟨oc,od,.func (fnX name qual ⟨[],args,none,[],[],none,[]⟩ body scope [] .none kV doc pm an cdv ct),osl⟩
 code:codeIn B.K cdv qual=true
 arg:args.map (·.arg)=ps
 kind:scope.kind=.function
 gen:scope.isGenerator=false
 cor:scope.isCoroutine=false
 names:scope.names=sc.names
 chk:gw B C d sc ys body
 pnd:ps.Nodup
 pre:ps<+:sc.vars
 vnd:sc.vars.Nodup
 kinds:∀p∈ps,LC (sc.names.lookup p)
 nofree:∀n,sc.names.lookup n≠some .free
 cnd:((cellsFrom 0 scope.names []).map (·.1)).Nodup
section
variable {B:Bx} {C:ak} {d:Nat} {fa:Addr} {sc:Sc} {ps:List Str} {ys:List Y} {oc:Value} {od:Option Addr} {osl:Array (Option Value)} {name qual:Str} {args:List Arg} {body:List Stmt} {scope:Scope} {kV doc pm cdv ct:Value} {an:Option Addr}
theorem yp (h:r9 B C d fa sc ps ys oc od osl name qual args body scope kV doc pm cdv ct an) {c:Cx} {A:Around} (K:aJ B c A (d+1)) {cells nw:ad} {σ:St} {φ:bh} {s:Shared} {us:List Value} {vs:List V} {Q:V→St→Prop} {P:Value→Shared→Prop} {E:Value→Shared→Prop}
  (F:Fr c.h₀ c.L s.heap (bindL (envOfC qual scope c.L fa cdv).kindOf (ps.zip us) λ yy=>none)) (N:News c.h₀ c.L s.heap (cells++nw)) (Y:CellsAre (bindC (envOfC qual scope c.L fa cdv).kindOf (ps.zip us) λ yy=>none) (cellsFrom (c.L+1) scope.names []) cells)
  (R:fY B σ φ nw) (hg:s.gens=#[]) (ho:s.os=c.os) (hlow:∀p∈nw,p.1<c.L+1) (x:bC B φ nw vs us) (hl:vs.length=ps.length)
  (q:ah C ys (vs.map some++List.replicate (sc.vars.length - ps.length) none) σ λ o yy σ'=>Q (cp o) σ')
  (k:∀v u (w':Wd) m',Q v w'.σ→VR B w'.φ w'.nw v u→aC B c m' w'.σ w'.φ w'.nw w'.s→bI φ nw w'.φ w'.nw→P u w'.s):
  wpAny (model B.prog B.w) A (execs body (envOfC qual scope c.L fa cdv)) (λ fl s'=>P (match fl with| .ret v=>v|_=>.none) s') E s:=by
 have hadr:=ee scope.names (c.L+1) [] (λ yy h=>absurd h Kf) KL
 have hkeys:=tc Y
 have hge:∀a∈cells.map (·.1),c.L+1≤a:=λ a ha=>by
  rw [hkeys] at ha
  exact (KB.mp ha).elim λ p hp=>hp.2▸(hadr.2 p hp.1).resolve_left Kf
 have hdis:∀a∈cells.map (·.1),a∉nw.map (·.1):=λ a ha hn=>(KB.mp hn).elim λ p hp=>Lw a (JS (hp.2▸hlow p hp.1) (hge a ha))
 have R':=nE R cells (hkeys▸hadr.1) λ p hp=>⟨hdis _ (Ke hp),(lD Y p hp).elim λ yy e=>by unfold mc;rw [e];exact (Kw _),
  beq_eq_false_iff_ne.mpr (J8 (JS (JS K.low (KQ F.above)) (hge _ (Ke hp))))⟩
 have W:aC B c _ σ φ (cells++nw) s:=⟨F,N,R',hg,ho⟩
 have hoff:∀a∈cells.map (·.1),a∉aB φ:=λ a ha hn=>hdis a ha (R.addr_mem hn)
 have cellAt:∀n,sc.names.lookup n=some .cell→∃a,(cellsFrom (c.L+1) scope.names []).lookup n=some a:=λ n hn=>Option.isSome_iff_exists.mp (cellsFrom_some scope.names (c.L+1) [] (x:=n) (.inl (by rw [h.names];exact hn)))
 have hko:∀n,(envOfC qual scope c.L fa cdv).kindOf n=sc.names.lookup n:=λ n=>congrArg (List.lookup n) h.names
 have ev:bV B c (bindL (envOfC qual scope c.L fa cdv).kindOf (ps.zip us) λ yy=>none) φ (cells++nw) (envOfC qual scope c.L fa cdv) sc.names sc.vars (vs.map some++List.replicate (sc.vars.length - ps.length) none):=by
  refine ⟨h.kind,h.names,rfl,rfl,cellAt,λ j n v hj hv=>?_⟩
  have e:(vs.map some).length=vs.length:=Km _
  have hjl:j<(vs.map some).length:=(Lu j _).resolve_right λ h=>by rw [ie _ _ h] at hv;cases hv
  rw [pP hjl,eh,List.getElem?_map] at hv
  have hv':vs[j]? =some v:=by
   cases e:vs[j]? with
   |none=>rw [e] at hv;cases hv
   |some v'=>rw [e] at hv;exact congrArg some (J4 hv)
  have hpj:ps[j]? =some n:=h.pre.elim λ t ht=>by
   rw [←ht,List.getElem?_append_left (by rw [←hl,←e];exact hjl)] at hj
   exact hj
  refine (x.get hv').imp λ u xu=>⟨xu.2.mono' (J1 _) λ yy yy yy h=>KS _ h,?_⟩
  rcases h.kinds n (Kh hpj) with e|e
  ·exact .loc ((hko n).trans e) rfl (rE ((hko n).trans e) ps us _ j h.pnd hpj xu.1)
  ·refine (cellAt n e).elim λ a ha=>(vv Y n a (bx ha)).elim λ o ho=>?_
   exact .cell ((hko n).trans e) ha (List.mem_append_left _ ho.1) (hoff a (Ke (f:=(·.1)) ho.1)) (ho.2.trans (congrArg Data.cell (rF (λ k=>by cases ((hko n).trans e).symm.trans k) ps us _ j h.pnd hpj xu.1)))
 have fn:Jy sc (cells.map (·.1)) c (envOfC qual scope c.L fa cdv):=⟨rfl,h.vnd,λ n a hn ha=>hkeys▸Ke (f:=(·.2)) (bx ha),
  λ n n' a yy yy ha ha'=>aM (l:=(cellsFrom (c.L+1) scope.names []).map λ p=>(p.2,p.1)) (by rw [List.map_map];exact hadr.1) (Ke (f:=λ p=>(p.2,p.1)) (bx ha)) (Ke (f:=λ p=>(p.2,p.1)) (bx ha')),h.nofree⟩
 have os:Os B d sc (cells.map (·.1)) ⟨c,_,A,envOfC qual scope c.L fa cdv,vs.map some++List.replicate (sc.vars.length - ps.length) none⟩ ⟨σ,φ,cells++nw,s⟩:=⟨⟨K,W,ev⟩,fn,λ a ha=>(KB.mp ha).elim λ p hp=>(lD Y p hp.1).elim λ y hy=>
  ⟨p.2,y,⟨List.mem_append_left _ (hp.2▸hp.1),hoff a ha⟩,hy⟩⟩
 have back:∀{w'},cL (cells.map (·.1)) ⟨σ,φ,cells++nw,s⟩ w'→bI φ nw w'.φ w'.nw:=λ X=>⟨X.pre,λ p hp hn=>X.kept p (KS _ hp) hn λ hS=>hdis _ hS (Ke (f:=(·.1)) hp),λ a ha=>(X.fresh a ha).imp id λ h hm=>h (by rw [List.map_append];exact KS _ hm)⟩
 refine Kn (h.chk _ _ _ _ E os q) (λ fl s' hh=>?_) λ yy yy e=>e
 cases hh with
 |next q o X=>exact k .none .none _ _ q .none o.ok.W (back X)
 |ret q x o X=>exact k _ _ _ _ q x o.ok.W (back X)
end
theorem se {ps:List Str} {us:List Value} (h:us.length=ps.length):∀n∈ps,((ps.zip us).lookup n).isSome=true:=by
 induction ps generalizing us with
 |nil=>intro n hn;cases hn
 |cons p ps ih=>
  cases us with
  |nil=>simp at h
  |cons u us=>
   intro n hn
   rw [List.zip_cons_cons,List.lookup_cons]
   cases e:n==p with
   |true=>rfl
   |false=>
    rcases KG.mp hn with h'|h'
    ·rw [h'] at e;simp at e
    ·exact ih (by simpa using h) n h'
theorem sf {ps:List Str} {us:List Value} (h:us.length=ps.length) (nd:ps.Nodup):(ps.filterMap λ n=>((ps.zip us).lookup n).map (n,·))=ps.zip us:=by
 induction ps generalizing us with
 |nil=>rfl
 |cons p ps ih=>
  cases us with
  |nil=>simp at h
  |cons u us=>
   rw [List.nodup_cons] at nd
   rw [List.zip_cons_cons,List.filterMap_cons]
   have e1:((p,u)::ps.zip us).lookup p=some u:=by simp
   rw [e1]
   simp only [Option.map_some]
   congr 1
   have:(ps.filterMap λ n=>(((p,u)::ps.zip us).lookup n).map (n,·))=ps.filterMap λ n=>((ps.zip us).lookup n).map (n,·):=by
    have key:∀(l:List Str),p∉l→(l.filterMap λ n=>(((p,u)::ps.zip us).lookup n).map (n,·))=l.filterMap λ n=>((ps.zip us).lookup n).map (n,·):=by
     intro l
     induction l with
     |nil=>intro _;rfl
     |cons x l ih2=>
      intro hx
      have hne:(x==p)=false:=beq_eq_false_iff_ne.mpr λ e=>hx (e▸Ky)
      rw [List.filterMap_cons,List.filterMap_cons,List.lookup_cons,hne,ih2 λ h=>hx (List.mem_cons_of_mem _ h)]
    exact key ps nd.1
   rw [this]
   exact ih (by simpa using h) nd.2
theorem tw {fd:FuncData} {ps:List Arg} {us:List Value} (hp:fd.params=⟨[],ps,none,[],[],none,[]⟩) (hd:fd.defaults=.none) (hl:us.length=ps.length) (hnd:(ps.map (·.arg)).Nodup):
  bindArgs fd ⟨us,[]⟩=pure ((ps.map (·.arg)).zip us):=by
 have h1:us.length=(ps.map (·.arg)).length:=by simpa using hl
 have h2:((ps.map (·.arg)).filter λ n=>(((ps.map (·.arg)).zip us).lookup n).isNone)=[]:=by
  rw [List.filter_eq_nil_iff]
  intro n hn
  have:=se h1 n hn
  cases e:((ps.map (·.arg)).zip us).lookup n with
  |none=>rw [e] at this;cases this
  |some v=>simp
 have h3:=sf h1 hnd
 unfold bindArgs
 rw [hp,hd]
 have e0:seqItems? Value.none=pure none:=rfl
 rw [e0]
 dsimp only
 generalize ps.map (·.arg)=P at*
 simp only [List.map_nil,List.nil_append,List.forIn_nil,pure_bind,Option.getD_none,List.drop_nil,List.length_nil,Nat.sub_zero,List.take_length,h2,h1]
 simp [h2,h3]
section
variable {B:Bx} {C:ak} {d:Nat} {fa:Addr} {sc:Sc} {ps:List Str} {ys:List Y} {oc:Value} {od:Option Addr} {osl:Array (Option Value)} {name qual:Str} {args:List Arg} {body:List Stmt} {scope:Scope} {kV doc pm cdv ct:Value} {an:Option Addr}
theorem r9.binds (h:r9 B C d fa sc ps ys oc od osl name qual args body scope kV doc pm cdv ct an) {us:List Value} (hl:us.length=ps.length) (s:Shared):BindsTo s (fnX name qual ⟨[],args,none,[],[],none,[]⟩ body scope [] .none kV doc pm an cdv ct) ⟨us,[]⟩ (ps.zip us):=
 BindsTo.of_eq (h.arg▸tw rfl rfl (by rw [hl,←h.arg,List.length_map]) (h.arg.symm▸h.pnd))
theorem r9.kindsZ (h:r9 B C d fa sc ps ys oc od osl name qual args body scope kV doc pm cdv ct an) (us:List Value) (n:Nat):∀y∈ps.zip us,scope.names.lookup y.1=some .local∨(scope.names.lookup y.1=some .cell∧((cellsFrom n scope.names []).lookup y.1).isSome=true):=λ y hy=>by
 rw [h.names]
 exact (h.kinds y.1 (List.of_mem_zip hy).1).imp id λ e=>⟨e,cellsFrom_some _ _ _ (.inl e)⟩
theorem IB (h:r9 B C d fa sc ps ys oc od osl name qual args body scope kV doc pm cdv ct an) {f:Fn} (hf:cR B f=some fa) {vs:List V} {σ:St} {Q:V→St→Prop} (hl:vs.length=ps.length)
  (q:ah C ys (vs.map some++List.replicate (sc.vars.length - ps.length) none) σ λ o yy σ'=>Q (cp o) σ'):j3 B (d+2) f vs σ Q:=
 ⟨fa,hf,λ c m φ nw s A us K W x=>callX_cells K.bl W.F W.N K.T.nolimit K.fr K.ff K.fk (W.inK K h.at_) rfl (codeRec_of (W.X K) h.code) (JV (JU _ _) K.dep) (h.binds (x.length▸hl) s) (λ n=>h.kindsZ us n) h.cnd (λ g L' h₁ tk cells FG F' N' Y B' st hlow=>
  yp h (c:=⟨c.base,g,A,c.fenv::c.outer,L',envOfC qual scope L' fa cdv,c.os⟩) ⟨B',K.X.keeps st,K.T.keeps st,Around.frames_deeper K.fr,rfl,h.kind,K.hh,JV (by show A.depth+1+2*(d+1)≤A.depth+2*(d+2);omega) K.dep,JV (by show A.units+3+100+10*(d+1)≤A.units+100+10*(d+2);omega) K.un,
   JS K.low (JT FG.above (Kb FG.ns.lt)),λ a vs e=>st _ _ (K.ro a vs e)⟩ F' N' Y W.R W.g W.o (λ p hp=>Kr (hlow p hp)) x hl q
   λ v u w' m' q x W2 X2=>⟨L',m',w'.nw,W2.F,W2.N,λ Fb Nb=>⟨v,w'.σ,w'.φ,w'.nw,q,x,⟨Fb,Nb,W2.R,W2.g,W2.o⟩,X2⟩⟩) h.cor h.gen h.kind⟩
theorem Fo (h:r9 B C d fa sc ps ys oc od osl name qual args body scope kV doc pm cdv ct an) {vs:List V} {us:List Value} {Q:V→St→Prop} {R:Result→Shared→Prop} {s:Shared} (hl:vs.length=ps.length)
  (q:ah C ys (vs.map some++List.replicate (sc.vars.length - ps.length) none) ⟨[]⟩ λ o yy σ'=>Q (cp o) σ') (x:bC B [] [] vs us) (hX:B.K.In s.heap) (hT:TopRead B.p B.loose B.mg B.mb s.heap) (hro:∀a vs,B.ro=some (a,vs)→s.heap.get? a=some (listOf vs.toArray 0))
  (hlow:sysModules<s.heap.objs.size) (hg:s.gens=#[]) (hdep:callerA.depth+1+2*(d+1)<recursionLimit) (hun:callerA.units+3+100+10*(d+1)<cLine)
  (k:∀v u (w':Wd),Q v w'.σ→VR B w'.φ w'.nw v u→(∀b o,s.heap.get? b=some o→w'.s.heap.get? b=some o)→w'.s.gens=#[]→w'.s.os=s.os→R (.ok (.ret u)) w'.s):
  codeAny (model B.prog B.w) callerA (.call (.ref fa) ⟨us,[]⟩) R s:=by
 refine codeAny_call_function (fd:=fnX name qual ⟨[],args,none,[],[],none,[]⟩ body scope [] .none kV doc pm an cdv ct) (body:=body) (JV (JT (Kt _) (JU _ _)) hdep) (hX _ _ h.at_) rfl h.cor h.gen rfl (codeRec_of hX h.code) (h.binds (x.length▸hl) s _ _ _ _ ?_)
 refine wpAny_newFunctionEnv_cells h.kind (h.kindsZ us _) λ env' he s' x'=>?_
 subst he
 refine ⟨hT.nolimit.keeps x'.toInCall.keep,codeAny_func ?_⟩
 obtain ⟨h₁,tk,rfl,_⟩:=x'.done
 obtain ⟨cells,NC,Y⟩:=Cl.news (h₀:=s.heap) (Kd _) λ n c hm=>⟨x'.cell n c (lookup_of_mem_nodup (cellsFrom_names scope.names 0 (s.heap.objs.size+1) [] [] rfl▸h.cnd) hm),x'.above n c hm⟩
 exact yp h (c:=⟨s.heap,s.heap,callerA,[],s.heap.objs.size,envOfC qual scope s.heap.objs.size fa cdv,s.os⟩) ⟨below_caller _,hX,hT,Around.frames_deeper rfl,rfl,h.kind,rfl,hdep,hun,hlow,hro⟩ (nw:=[]) (φ:=[]) (σ:=⟨[]⟩) ⟨x'.toInCall.ns,x'.toInCall.keep,Kd _⟩ ((List.append_nil cells).symm▸NC) Y
  ⟨rfl,KL,KL,λ yy h=>absurd h Kf,λ yy h=>absurd h Kf,λ yy yy e=>by cases e⟩ hg rfl (λ yy h=>absurd h Kf) x hl q
  λ v u w' m' q x W2 X2=>k v u w' q x W2.F.keep W2.g W2.o
end
noncomputable def jp (p:Arguments):Bool:=p.posonlyargs.isEmpty && p.vararg.isNone && p.kwonlyargs.isEmpty && p.kw_defaults.isEmpty && p.kwarg.isNone && p.defaults.isEmpty
noncomputable def BO (scope:Scope) (lv:List String):Sc:=⟨scope.names,lv.map Str.ofString⟩
noncomputable def Ha (K:Frag) (ps lv:List String) (fd:FuncData):Bool:=
 (fd.globals==mainGlobals && fd.closure.isEmpty && fd.defaults==.none && fd.builtins==builtinsNs && jp fd.params) && (codeIn K fd.code fd.qualname &&
   (fd.params.args.map (·.arg)==ps.map Str.ofString && (fd.scope.kind==.function && ((!fd.scope.isGenerator && !fd.scope.isCoroutine) &&
   (decide (ps.map Str.ofString).Nodup && ((ps.map Str.ofString).isPrefixOf (lv.map Str.ofString) && (decide (lv.map Str.ofString).Nodup &&
   ((ps.map Str.ofString).all (λ p=>sQ (fd.scope.names.lookup p)) && (fd.scope.names.all (λ p=>p.2 !=.free) && decide ((cellsFrom 0 fd.scope.names []).map (·.1)).Nodup)))))))))
noncomputable abbrev HG (B:Bx) (C:ak) (d:Nat) (fa:Addr) (ps lv:List String) (ys:List Y):Prop:=
 ∃sc oc od osl name qual args body scope kV doc pm cdv ct an,sc.vars.length=lv.length∧r9 B C d fa sc (ps.map Str.ofString) ys oc od osl name qual args body scope kV doc pm cdv ct an
theorem bQ {a b:Bool} (h:(a && b)=true):a=true∧b=true:=J6.mp h
section
variable {B:Bx} {C:ak} {d:Nat}
theorem zQ {fd:FuncData} {body:List Stmt} (hb:fd.body=.stmts body) (h:(fd.globals==mainGlobals && fd.closure.isEmpty && fd.defaults==.none && fd.builtins==builtinsNs && jp fd.params)=true):
  fd=fnX fd.name fd.qualname ⟨[],fd.params.args,none,[],[],none,[]⟩ body fd.scope [] .none fd.kwdefaults fd.doc fd.pyModule fd.annotations fd.code fd.closureTuple:=by
 obtain ⟨name,qual,⟨po,args,va,ko,kd,kw,df⟩,fbody,scope,globals,closure,dV,kV,doc,pm,an,cdv,ct,bi⟩:=fd
 have h1:=bQ h
 have h2:=bQ h1.1
 have h3:=bQ h2.1
 have h4:=bQ h3.1
 have p1:=bQ h1.2
 have p2:=bQ p1.1
 have p3:=bQ p2.1
 have p4:=bQ p3.1
 have p5:=bQ p4.1
 have e1:globals=mainGlobals:=Kk.mp h4.1
 have e2:closure=[]:=Lg.mp h4.2
 have e3:dV=.none:=Kk.mp h3.2
 have e4:bi=builtinsNs:=Kk.mp h2.2
 have q1:po=[]:=Lg.mp p5.1
 have q2:va=none:=Option.isNone_iff_eq_none.mp p5.2
 have q3:ko=[]:=Lg.mp p4.2
 have q4:kd=[]:=Lg.mp p3.2
 have q5:kw=none:=Option.isNone_iff_eq_none.mp p2.2
 have q6:df=[]:=Lg.mp p1.2
 have e0:fbody=.stmts body:=hb
 rw [e0,e1,e2,e3,e4,q1,q2,q3,q4,q5,q6]
theorem G9 {fa:Addr} {ps lv:List String} {ys:List Y} {oc:Value} {od:Option Addr} {osl:Array (Option Value)} {fd:FuncData} {body:List Stmt} (hk:B.K.lookup fa=some ⟨oc,od,.func fd,osl⟩) (hb:fd.body=.stmts body) (h:Ha B.K ps lv fd=true) (hy:gw B C d (BO fd.scope lv) ys body):HG B C d fa ps lv ys:=by
 have h0:=bQ h
 have h1:=bQ h0.2
 have h2:=bQ h1.2
 have h3:=bQ h2.2
 have h4:=bQ h3.2
 have h5:=bQ h4.2
 have h6:=bQ h5.2
 have h7:=bQ h6.2
 have h8:=bQ h7.2
 have h9:=bQ h8.2
 exact ⟨BO fd.scope lv,oc,od,osl,_,_,_,body,fd.scope,_,_,_,_,_,_,Km _,hk.trans (congrArg (λ fd=>some (Obj.mk oc od (.func fd) osl)) (zQ hb h0.1)),h1.1,Kk.mp h2.1,Kk.mp h3.1,eI (bQ h4.1).1,eI (bQ h4.1).2,rfl,hy,
  J9 h5.1,List.isPrefixOf_iff_prefix.mp h6.1,J9 h7.1,λ p hp=>gp _ (KC.mp h8.1 p hp),λ n hn=>bne_iff_ne.mp (KC.mp h9.1 _ (bx hn)) rfl,J9 h9.2⟩
end
section
variable {p:Prop}
noncomputable def Il (o:Option Obj) (k:∀oc od fd osl,o=some ⟨oc,od,.func fd,osl⟩→ao p):ao p:=match o,k with
 |some ⟨oc,od,.func fd,osl⟩,k=>k oc od fd osl rfl
 |_,_=>none
noncomputable def Ch (b:FuncBody) (k:∀body,b=.stmts body→ao p):ao p:=match b,k with
 | .stmts body,k=>k body rfl
 |_,_=>none
noncomputable def Cb {α:Type} (o:Option α) (k:∀a,o=some a→ao p):ao p:=match o,k with
 |some a,k=>k a rfl
 |none,_=>none
end
section
variable {B:Bx} {C:ak} {d:Nat} (BB:bA B) (hC:∀f vs σ Q,C f vs σ Q→j3 B d f vs σ Q)
noncomputable abbrev IY (B:Bx) (C:ak) (d:Nat) (l:List (Fn×List String×List String×List Y)):Prop:=∀p∈l,∃fa,cR B p.1=some fa∧HG B C d fa p.2.1 p.2.2.1 p.2.2.2
noncomputable def oK:(l:List (Fn×List String×List String×List Y))→ao (IY B C d l)
 |[]=>bM λ yy h=>absurd h Kf
 |p::l=>Cb (cR B p.1) λ fa ha=>Il (B.K.lookup fa) λ oc od fd osl hk=>Ch fd.body λ body hb=>tst (Ha B.K p.2.1 p.2.2.1 fd) λ h=>(Em BB hC p.2.2.2 (BO fd.scope p.2.2.1) body).andT λ hy=>(oK l).andT λ hl=>
  bM (Kl.mpr ⟨⟨fa,ha,G9 hk hb h hy⟩,hl⟩)
theorem k8:∀{l:List (Fn×List String×List String×List Y)} {f:Fn} {v},oE l f=some v→(f,v)∈l
 |[],_,_,h=>by cases h
 |(k,w)::l,f,v,h=>by
  have h:(if k=f then some w else oE l f)=some v:=h
  by_cases e:k=f
  ·rw [if_pos e] at h;cases h;exact e▸.head _
  ·rw [if_neg e] at h;exact .tail _ (k8 h)
theorem FV {k:Nat} {f:Fn} {vs:List V} {σ:St} {Q:V→St→Prop} (h:aw (k+1) f vs σ Q):∃ps lv ys,(f,ps,lv,ys)∈uA∧vs.length=ps.length∧ah (aw k) ys (vs.map some++List.replicate (lv.length - ps.length) none) σ λ o yy σ'=>Q (cp o) σ':=by
 rw [As] at h
 cases e:ag f with
 |none=>rw [e] at h;exact h.elim
 |some p=>rw [e] at h;exact ⟨p.1,p.2.1,p.2.2,k8 e,h⟩
theorem mW (hT:∀(C:ak) (d:Nat) (hC:∀f vs σ Q,C f vs σ Q→j3 B d f vs σ Q),(oK BB hC uA).isSome=true):∀(d:Nat) (f:Fn) (vs:List V) (σ:St) (Q:V→St→Prop),aw d f vs σ Q→j3 B (2*d) f vs σ Q
 |0,f,vs,σ,Q,h=>by rw [FU] at h;exact h.elim
 |d+1,f,vs,σ,Q,h=>(FV h).elim λ ps h=>h.elim λ lv h=>h.elim λ ys h=>((ao.of (hT _ _ (mW hT d))) _ h.1).elim λ fa k=>by
  obtain ⟨sc,oc,od,osl,name,qual,args,body,scope,kV,doc,pm,cdv,ct,an,hl,F⟩:=k.2
  exact IB (d:=2*d) F k.1 (h.2.1.trans (Km _).symm) (by rw [hl,List.length_map];exact h.2.2)
end
section
variable {p:Prop}
noncomputable def B9 (o:Option Obj) (k:∀d its n sl,o=some ⟨.type "tuple",d,.seq its n,sl⟩→ao p):ao p:=match o,k with
 |some ⟨cls,d,.seq its n,sl⟩,k=>tst (decide (cls=.type "tuple")) λ h=>k d its n sl ((J9 h)▸rfl)
 |_,_=>none
noncomputable def zx (o:Option Obj) (k:∀cls d es ep sl,o=some ⟨cls,d,.dict es ep,sl⟩→ao p):ao p:=match o,k with
 |some ⟨cls,d,.dict es ep,sl⟩,k=>k cls d es ep sl rfl
 |_,_=>none
end
section
variable {P:Value→Prop}
noncomputable def wR (u:Value) (k:∀i t,ao (P (.int i t))):ao (P u):=match u with
 | .int i t=>k i t
 |_=>none
noncomputable def Gx (u:Value) (k:∀i t,ao (P (.str i t))):ao (P u):=match u with
 | .str i t=>k i t
 |_=>none
noncomputable def Az (u:Value) (k:∀a,ao (P (.ref a))):ao (P u):=match u with
 | .ref a=>k a
 |_=>none
end
section
variable {B:Bx}
noncomputable abbrev AY (B:Bx) (v:V) (u:Value):Prop:=∀φ nw,VR B φ nw v u
mutual
noncomputable def AO:(v:V)→(u:Value)→ao (AY B v u)
 | .int i,u=>wR (P:=AY B (.int i)) u λ j t=>tst (decide (j=i)) λ h=>bM ((J9 h)▸λ yy yy=>.int _ _)
 | .str s,u=>Gx (P:=AY B (.str s)) u λ x t=>tst (decide (x=Str.ofString s)) λ h=>bM ((J9 h)▸λ yy yy=>.str _ _)
 | .tup l,u=>Az (P:=AY B (.tup l)) u λ a=>B9 (B.K.lookup a) λ d its n sl hk=>tst (decide (its.toList.length≤1000)) λ hl=>(yg l its.toList).andT λ h=>bM λ φ nw=>.ktup (vs:=its.toList) hk (J9 hl) (h φ nw)
 |_,_=>none
noncomputable def yg:(l:List V)→(us:List Value)→ao (∀φ nw,bC B φ nw l us)
 |[],us=>fj (P:=λ us=>∀φ nw,bC B φ nw [] us) us (bM λ yy yy=>.nil)
 |v::l,us=>fp (P:=λ us=>∀φ nw,bC B φ nw (v::l) us) us λ u us=>(AO v u).andT λ h=>(yg l us).andT λ k=>bM λ φ nw=>.cons (h φ nw) (k φ nw)
end
noncomputable def jS (prog:Program) (w:World) (l:List (Int×Int)) (es:List DictEntry):Prop:=∃kvs:List (Int×Value),(∀e∈es,∃k,(intKind prog w).is k e.key=true∧e.hash=(intKind prog w).hash k)∧Pairs (intKind prog w) es kvs∧kvs.map (·.1)=l.map (·.1)∧
  ∀k,match l.lookup k with|some j=>∃t,valueAt kvs k=some (.int j t)|none=>valueAt kvs k=none
theorem xX {prog:Program} {w:World} {i j:Int} {t t':Tok} {l:List (Int×Int)} {es:List DictEntry} (h:jS prog w l es):jS prog w ((i,j)::l) (⟨hashInt i,.int i t,.int j t'⟩::es):=
 h.elim λ kvs h=>⟨(i,.int j t')::kvs,Kl.mpr ⟨⟨i,intKind_is _ _ _ _,rfl⟩,h.1⟩,.cons (intKind_is _ _ _ _) rfl h.2.1,congrArg (List.cons i) h.2.2.1,λ k=>by
  have hv:valueAt ((i,Value.int j t')::kvs) k=if i=k then some (.int j t') else valueAt kvs k:=by
   unfold valueAt
   rw [List.find?_cons]
   by_cases e:i=k
   ·rw [if_pos e,show decide (i=k)=true from decide_eq_true e];rfl
   ·rw [if_neg e,show decide (i=k)=false from decide_eq_false e]
  rw [List.lookup_cons,hv]
  by_cases e:k=i
  ·rw [if_pos e.symm,beq_iff_eq.mpr e];exact ⟨t',rfl⟩
  ·rw [if_neg λ q=>e q.symm,beq_eq_false_iff_ne.mpr e];exact h.2.2.2 k⟩
noncomputable def AQ (prog:Program) (w:World):(l:List (Int×Int))→(es:List DictEntry)→ao (jS prog w l es)
 |[],es=>fj (P:=jS prog w []) es (bM ⟨[],λ yy h=>absurd h Kf,.nil,rfl,λ yy=>rfl⟩)
 |(i,j)::l,es=>fp (P:=jS prog w ((i,j)::l)) es λ e es=>wR (P:=λ k=>jS prog w ((i,j)::l) (⟨e.hash,k,e.val⟩::es)) e.key λ i' t=>wR (P:=λ v=>jS prog w ((i,j)::l) (⟨e.hash,.int i' t,v⟩::es)) e.val λ j' t'=>
   tst (decide (i'=i) && decide (j'=j)) λ h=>tst (decide (e.hash=hashInt i)) λ hh=>(AQ prog w l es).andT λ k=>bM ((J9 hh).symm▸(J9 (bQ h).1).symm▸(J9 (bQ h).2).symm▸xX k)
theorem G6 {l:List (Int×Int)} {a:Addr} {cls:Value} {d:Option Addr} {es:Array DictEntry} {ep:Nat} {sl:Array (Option Value)} (hk:B.K.lookup a=some ⟨cls,d,.dict es ep,sl⟩) (h1:cls=.type "dict") (h2:d.isNone=true) (h3:sl=#[]) (h4:jS B.prog B.w l es.toList) (h5:(l.map (·.1)).Nodup) (h6:l.length≤1000) (h7:(!(a==sysModules))=true):AY B (.gdict l) (.ref a):=by
 have h2:=Option.isNone_iff_eq_none.mp h2
 subst h1 h2 h3
 exact λ φ nw=>h4.elim λ kvs h=>.gdict hk ⟨es,ep,⟨rfl,rfl,rfl⟩,rfl,λ e he=>h.1 e (Array.mem_toList_iff.mpr he),h.2.1,by rw [h.2.2.1];exact h5⟩ (by have:=congrArg List.length h.2.2.1;rw [List.length_map,List.length_map] at this;rw [this];exact h6) h.2.2.2 (eI h7)
noncomputable def Hk (v:V) (u:Value):ao (AY B v u):=match v with
 | .gdict l=>Az (P:=AY B (.gdict l)) u λ a=>zx (B.K.lookup a) λ cls d es ep sl hk=>tst (decide (cls=.type "dict")) λ h1=>tst d.isNone λ h2=>tst (decide (sl=#[])) λ h3=>(AQ B.prog B.w l es.toList).andT λ h4=>tst (decide (l.map (·.1)).Nodup) λ h5=>tst (decide (l.length≤1000)) λ h6=>tst (!(a==sysModules)) λ h7=>
   bM (G6 hk (J9 h1) h2 (J9 h3) h4 (J9 h5) (J9 h6) h7)
 |v=>AO v u
noncomputable def tb:(l:List (String×V))→ao (∀p∈l,∃u,nsIn B.K mainGlobals (Str.ofString p.1)=some (some u)∧AY B p.2 u)
 |[]=>bM λ yy h=>absurd h Kf
 |p::l=>Cb (nsIn B.K mainGlobals (Str.ofString p.1)) λ o ho=>Cb o λ u hu=>(Hk p.2 u).andT λ h=>(tb l).andT λ hl=>bM (Kl.mpr ⟨⟨u,hu▸ho,h⟩,hl⟩)
noncomputable def AN (K:Frag) (c:String) (C:Addr):Bool:=plainGet K C Str.empty && (hasDictIn K C && (plainOver K C && (findIn K (.ref C) "__setattr__"==some (some (.builtin "object.__setattr__")) && (makesIn K C && (keepIn K (.ref C) &&
   cf.all λ n=>!cT c n||findIn K (.ref C) (Str.ofString n)==some none)))))
theorem Ek {K:Frag} {c:String} {C:Addr} (h:AN K c C=true):A0 K c C:=
 have h1:=bQ h
 have h2:=bQ h1.2
 have h3:=bQ h2.2
 have h4:=bQ h3.2
 have h5:=bQ h4.2
 have h6:=bQ h5.2
 ⟨h1.1,h2.1,h3.1,Kk.mp h4.1,h5.1,h6.1,λ n hn hok=>Kk.mp (Li.mp (KC.mp h6.2 n hn)|>.resolve_left λ e=>by rw [hok] at e;cases e)⟩
noncomputable def El (K:Frag):Bool:=cI.all λ c=>match jw K c with
 |some C=>AN K c C
 |none=>false
noncomputable def AW (B:Bx):Bool:=El B.K && (dn.all (λ p=>nsIn B.K mainGlobals (Str.ofString p.1)==some none && (bootBuiltins (Str.ofString p.1)==some p.2 && Str.ofString p.1 !="__name__")) &&
 (j9.all (λ n=>(cR B (.g n)).isSome) && (mzz.all (λ p=>(cR B (.m p.1 p.2)).isSome) && cI.all λ c=>(cR B (.m c "__init__")).isSome)))
theorem nh:∀{l:List (String×V)} {n:String} {v:V},ug l n=some v→(n,v)∈l
 |[],_,_,h=>by cases h
 |(k,w)::l,n,v,h=>by
  have h:(if k=n then some w else ug l n)=some v:=h
  by_cases e:k=n
  ·rw [if_pos e] at h;cases h;exact e▸.head _
  ·rw [if_neg e] at h;exact .tail _ (nh h)
theorem Ho (h:AW B=true) (hg:(tb (B:=B) glob).isSome=true):bA B:=
 have h1:=bQ h
 have h2:=bQ h1.2
 have h3:=bQ h2.2
 have h4:=bQ h3.2
 ⟨⟨λ c C hc hC=>Ek (by have k:=KC.mp h1.1 c hc;rw [hC] at k;exact k)⟩,λ n v hv=>ao.of hg _ (nh hv),λ n hn=>Option.isSome_iff_exists.mp (KC.mp h3.1 n hn),λ c n hn=>Option.isSome_iff_exists.mp (KC.mp h4.1 (c,n) hn),
  λ c hc=>Option.isSome_iff_exists.mp (KC.mp h4.2 c hc),λ n v hn=>have k:=bQ (KC.mp h2.1 (n,v) hn);⟨Kk.mp k.1,Kk.mp (bQ k.2).1,bne_iff_ne.mp (bQ k.2).2⟩⟩
end
noncomputable abbrev EQ (prog:Program) (w:World) (P:Params) (p:Program) (loose:List Str) (mean:ExcName→Option Value) (mg mb:Str→Option Value) (ro:Option (Addr×List Value)):Bx:=⟨prog,w,KH P,p,loose,mean,mg,mb,ro⟩
section
variable (prog:Program) (w:World) (P:Params) (p:Program) (loose:List Str) (mean:ExcName→Option Value) (mg mb:Str→Option Value) (ro:Option (Addr×List Value))
theorem GT:AW (EQ prog w P p loose mean mg mb ro)=true:=by kernel_rfl
theorem GS:(tb (B:=EQ prog w P p loose mean mg mb ro) glob).isSome=true:=by kernel_rfl
theorem Cq (BB:bA (EQ prog w P p loose mean mg mb ro)) (C:ak) (d:Nat) (hC:∀f vs σ Q,C f vs σ Q→j3 (EQ prog w P p loose mean mg mb ro) d f vs σ Q):(oK BB hC uA).isSome=true:=by kernel_rfl
end
theorem rl {R:WRecords}:∀{xs:List WData},WShape.hasItems R xs .int=true→∃l:List Int,xs=l.map WData.int
 |[],_=>⟨[],rfl⟩
 |x::xs,h=>by
  have h:=bQ (show (WShape.has R x .int && WShape.hasItems R xs .int)=true from h)
  refine (rl h.2).elim λ l e=>?_
  subst e
  have h1:=h.1
  cases x with
  |int i=>exact ⟨i::l,rfl⟩
  |_=>simp [WShape.has,WShape.arms] at h1
theorem ur {B:Bx} {P:Params} {h:Heap}:∀{l:List Int} {vs:List Value},WellAll P h vs (l.map WData.int)→vs.length=l.length∧bC B [] [] (l.map V.int) vs
 |[],_,.nil=>⟨rfl,.nil⟩
 |i::l,_,.cons a b=>by
  have ih:=ur (B:=B) b
  cases a
  exact ⟨congrArg (· +1) ih.1,.cons (.int _ _) ih.2⟩
theorem zD {R:WRecords} {xs:List WData} (h:pq.pre.holds R {args:=[.list xs]}=true):xs.length≤63:=by
 simp [WTm.holds,OpenLaw.pre,pq,PySem.Challenge.rw_xm0312_01,WTm.value] at h
 have e:W.less? (WData.int 63) (WData.int xs.length)=some (decide ((63:Int)<xs.length)):=rfl
 rw [e] at h
 by_cases hh:(63:Int)<xs.length
 ·simp [hh] at h
 ·omega
theorem zp {as ds:List WData}:pq.row.toRowW.claim.post as (.bool true) ds=true:=by
 show (WShape.has [] (.bool true) .bool && (WTm.eq .res (.lit (.bool true))).holds [] {args:=as,res:=some (.bool true),after:=ds})=true
 simp [WShape.has,WShape.arms,WTm.holds,WTm.value,W.same]
theorem walk_of (hlaw:∀(l:List Int) (Q:V→St→Prop),(∀σ,Q (.bool true) σ)→aw 16 (.g "law") [.rol l] ⟨[]⟩ Q):
  WalkO qv dB (λ yy yy=>True) (λ w h=>(KH w.params).In h) pq.row.toRowW ec [] λ f vs=>PySem.call f vs:=by
 intro w s₀ s₁ mg mb G Y a o pm cd doc dV kV h2 h3 h4 h5 h1 hg args vals as hpre hlay hrd hwell hsm
 obtain ⟨hsh,hpr⟩:=pre_splitW hpre
 obtain ⟨d,ds,rfl,hd,hds⟩:=hasAllW_cons hsh
 obtain rfl:=hasAllW_nil hds
 obtain ⟨xs,rfl,hxs⟩:=hasW_list hd
 obtain ⟨l,rfl⟩:=rl hxs
 have hm:=zD hpr
 obtain ⟨al,vs,hal,hvs,rfl⟩:∃al vs,s₁.heap.get? al=some {cls:=.type "list",data:=.seq vs.toArray}∧WellAll w.params s₁.heap vs (l.map WData.int)∧vals=[.ref al]:=by
  cases hwell with
  |cons x y=>
   cases y
   cases x with
   |list e f=>exact ⟨_,_,e,f,rfl⟩
 have BB:bA (EQ pq.row.toRowW.prog w w.params qv (looseW qv dB) (ExcName.means s₀.heap) mg mb (some (al,vs))):=Ho (GT _ _ _ _ _ _ _ _ _) (GS _ _ _ _ _ _ _ _ _)
 have hT:=Cq _ _ _ _ _ _ _ _ _ BB
 have hv:=ur (B:=EQ pq.row.toRowW.prog w w.params qv (looseW qv dB) (ExcName.means s₀.heap) mg mb (some (al,vs))) hvs
 refine (FV (hlaw l (λ v yy=>v=.bool true) λ yy=>rfl)).elim λ ps q=>q.elim λ lv q=>q.elim λ ys q=>((ao.of (hT _ _ (mW BB hT 15))) _ q.1).elim λ fa k=>?_
 obtain ⟨sc,oc,od,osl,name,qual,args,body,scope,kV',doc',pm',cdv,ct,an,hl,F⟩:=k.2
 have e1:mg ec.name=some (.ref fa):=mg_of Y G.T.g (lg k.1).1
 have e2:fa=a:=by rw [h1] at e1;cases e1;rfl
 subst e2
 refine wpAny_call (Fo (d:=30) (Q:=λ v yy=>v=.bool true) (us:=[.ref al]) F (vs:=[.rol l]) (q.2.1.trans (Km _).symm) (by rw [hl,List.length_map];exact q.2.2)
  (.cons (.rol rfl (by have:=hv.1;rw [List.length_map] at hm;omega) hv.2) .nil) Y (topRead_of G.T) (λ a vs e=>by cases e;exact hal) G.low hg (by decide) (by decide) λ v u w' qv' xu hk hgg hos=>?_)
 subst qv'
 cases xu
 exact ⟨.inl ⟨_,_,[],rfl,λ yy=>rfl,.bool _,zp,λ yy=>⟨KL,λ yy hx=>by cases hx⟩⟩,OldK.of_keep hk,hos,AllBare.of_eq hgg⟩
end Mine
end
section
namespace Mine.L3
noncomputable instance (priority:=low) cdec (α:Type):DecidableEq α:=λ yy yy=>Classical.propDecidable _
theorem dR {m c d:Nat} (k:Nat) (h:m<c) (e:Nat.ble (c+k) d=true):m+k<d:=JS (Kv h k) (K4 e)
theorem gA {m c d:Nat} (h:m<c) (e:Nat.ble c d=true):m<d:=JS h (K4 e)
theorem nk {x y z a b:Nat} (h:x≤y+a) (g:y≤z+b):x≤z+(b+a):=JT h (Lh z b a▸Ki g a)
theorem AT {x y k r z:Nat} (h:x≤y+k) (g:y+r+k≤z):x+r≤z:=JT (Ki h r) (JT (J3 (Ln y k r)) g)
theorem HO {m i k c d e:Nat} (hm:m<c) (hi:i≤d) (h:Nat.ble (c+1+k*d) e=true):m+1+k*i<e:=JS (Nat.add_lt_add_of_lt_of_le (Kv hm 1) (KJ k hi)) (K4 h)
theorem mh (m:Nat) {a b:Nat} (e:Nat.ble a b=true):m+a≤m+b:=JW (K4 e) m
theorem ac {σ:St} {n:Nat} {o:O} (h:σ.get n=some o):n<σ.len:=by
 unfold St.get at h
 exact (Ka.mp h).1
theorem aR {σ:St} {n m:Nat} {o:O} (h:m≠n):(σ.put n o).get m=σ.get m:=by
 simp only [St.get,St.put]
 exact List.getElem?_set_ne (λ e=>h e.symm)
theorem getE {σ:St} {n m:Nat} {o:O} (e:m=n) (h:n<σ.len):(σ.put n o).get m=some o:=by
 subst e
 simp only [St.get,St.put]
 exact List.getElem?_set_self h
theorem aP {σ:St} {m:Nat} {o:O} (h:m<σ.len):(σ.new o).get m=σ.get m:=by
 simp only [St.get,St.new]
 exact Lk h
theorem gY {σ:St} {m:Nat} {o:O} (e:m=σ.len):(σ.new o).get m=some o:=by
 subst e
 simp [St.get,St.new,St.len]
theorem aj {σ:St} {n:Nat} {o:O}:(σ.put n o).len=σ.len:=by simp [St.len,St.put]
theorem aD {σ:St} {o:O}:(σ.new o).len=σ.len+1:=by simp [St.len,St.new]
section
variable {C:ak} {ρ:ax} {σ:St} {Q:Option V→ax→St→Prop} {l:List Y}
theorem fg {x:X} (h:aH C x ρ σ λ yy σ1=>ah C l ρ σ1 Q):ah C (.ex x::l) ρ σ Q:=h
theorem bq {t:T} {x:X} (h:aH C x ρ σ λ v σ1=>BL C t v ρ σ1 λ ρ' σ2=>ah C l ρ' σ2 Q):ah C (.set t x::l) ρ σ Q:=h
theorem dz {x:X} (h:aH C x ρ σ λ v σ1=>Q (some v) ρ σ1):ah C (.ret x::l) ρ σ Q:=h
theorem bE (h:Q none ρ σ):ah C [] ρ σ Q:=h
theorem rm (C:ak) (b:List Y) (Q:Option V→ax→St→Prop) (a:List Y):∀ρ σ,ah C (a++b) ρ σ Q=ah C a ρ σ (λ o ρ' σ'=>match o with
  |none=>ah C b ρ' σ' Q
  |some v=>Q (some v) ρ' σ'):=by
 induction a with
 |nil=>exact λ yy yy=>rfl
 |cons y a ih=>exact λ ρ σ=>congrArg (HQ C y ρ σ) (funext λ o=>Option.casesOn (motive:=λ o=>(λ (ρ':ax) (σ':St)=>match o with
  |none=>ah C (a++b) ρ' σ' Q
  |some v=>Q (some v) ρ' σ')=λ ρ' σ'=>match o with
  |none=>ah C a ρ' σ' (λ o ρ' σ'=>match o with
   |none=>ah C b ρ' σ' Q
   |some v=>Q (some v) ρ' σ')
  |some v=>Q (some v) ρ' σ') o (funext λ ρ'=>funext λ σ'=>ih ρ' σ') λ yy=>rfl)
theorem ck {t:X} {a b:List Y} (h:fe C t ρ σ λ r σ1=>ah C ((match r with|true=>a|false=>b)++l) ρ σ1 Q):ah C (.ite t a b::l) ρ σ Q:=
 (congrArg (fe C t ρ σ) (funext λ r=>funext λ σ1=>by cases r;exact rm C l Q b ρ σ1;exact rm C l Q a ρ σ1)).mp h
theorem gU {k:Bool} {is:List Nat} {it:X} {body:List Y} (h:vf C it ρ σ λ items guard σ1=>
   c2 guard (λ v ρ' σ2 K=>tV ρ' k is v λ ρ''=>ah C body ρ'' σ2 K) items ρ σ1 (λ o ρ' σ'=>match o with
    |none=>ah C l ρ' σ' Q
    |some v=>Q (some v) ρ' σ')):ah C (.for_ k is it body::l) ρ σ Q:=h
theorem wu {t:X} {body:List Y} (h:∃n,ik (fe C t) (ah C body) n ρ σ (λ o ρ' σ'=>match o with
    |none=>ah C l ρ' σ' Q
    |some v=>Q (some v) ρ' σ')):ah C (.whl t body::l) ρ σ Q:=h
end
theorem go {d:Nat} {f:Fn} {vs:List V} {σ:St} {Q:V→St→Prop} {ps lv:List String} {ys:List Y} (hb:ag f=some (ps,lv,ys)) (hl:vs.length=ps.length)
  (h:ah (aw d) ys (vs.map some++List.replicate (lv.length - ps.length) none) σ λ o yy σ'=>Q (cp o) σ'):aw (d+1) f vs σ Q:=by
 rw [As]
 rw [hb]
 exact ⟨hl,h⟩
noncomputable def Ib (f:List V→Bool) (v:V):Bool:=V.casesOn v true (λ yy=>false) (λ yy=>true) (λ yy=>true) f (λ yy=>false) (λ yy=>false) λ yy=>false
noncomputable def pu (n:Nat):V→Bool:=Nat.rec (Ib λ yy=>false) (λ yy f=>Ib λ l=>l.all f) n
noncomputable abbrev pus (n:Nat) (l:List V):Bool:=l.all (pu n)
theorem sx {f:List V→Bool} {P:V→Prop} (h0:P .none) (h1:∀i,P (.int i)) (h2:∀s,P (.str s)) (h3:∀l,f l=true→P (.tup l)) {v:V}:Ib f v=true→P v:=by
 cases v with
 |none=>exact λ yy=>h0
 |int i=>exact λ yy=>h1 i
 |str s=>exact λ yy=>h2 s
 |tup l=>exact h3 l
 |_=>exact nofun
theorem sv {P:Nat→V→Prop} (h0:∀n,P n .none) (h1:∀n i,P n (.int i)) (h2:∀n s,P n (.str s)) (h3:∀n l,(∀v∈l,P n v)→P (n+1) (.tup l)) (n:Nat):∀v,pu n v=true→P n v:=by
 induction n with
 |zero=>exact λ v=>sx (f:=λ yy=>false) (h0 0) (h1 0) (h2 0) nofun
 |succ n ih=>exact λ v=>sx (h0 _) (h1 _) (h2 _) λ l h=>h3 n l λ v hv=>ih v (KC.mp h v hv)
theorem dW {n:Nat} {l:List V}:pus n l=true↔∀v∈l,pu n v=true:=KC
theorem pK {σ:St} {l:List V}:(∀v∈l,du σ v (hZ v))→dM σ l (jT l):=by
 induction l with
 |nil=>exact λ yy=>.nil
 |cons v l ih=>exact λ h=>.cons (Kl.mp h).1 (ih (Kl.mp h).2)
theorem gg (σ:St):∀(n:Nat) (v:V),pu n v=true→du σ v (hZ v)∧(hZ v).depth≤n:=
 sv (λ yy=>⟨.none,Kw _⟩) (λ yy i=>⟨.int i,Kw _⟩) (λ yy s=>⟨.str s,Kw _⟩) λ yy yy h=>⟨.tup (pK λ v hv=>(h v hv).1),Kj (gq λ v hv=>(h v hv).2)⟩
theorem cY (σ:St) (n:Nat) (l:List V) (h:pus n l=true):dM σ l (jT l)∧D.depths (jT l)≤n:=
 ⟨pK λ v hv=>(gg σ n v (dW.mp h v hv)).1,gq λ v hv=>(gg σ n v (dW.mp h v hv)).2⟩
theorem t4:∀(n:Nat) (v:V),pu n v=true→Ci (hZ v)=v:=sv (λ yy=>rfl) (λ yy yy=>rfl) (λ yy yy=>rfl) λ yy yy h=>congrArg V.tup (ej h)
theorem hY (n m:Nat) (a b:V) (ha:pu n a=true) (hb:pu m b=true) (e:hZ a=hZ b):a=b:=(t4 n a ha).symm.trans ((congrArg Ci e).trans (t4 m b hb))
theorem kh (n m:Nat) (a b:List V) (ha:pus n a=true) (hb:pus m b=true) (e:jT a=jT b):a=b:=
 (ej λ v h=>t4 n v (dW.mp ha v h)).symm.trans ((congrArg wT e).trans (ej λ v h=>t4 m v (dW.mp hb v h)))
theorem zk:∀(n:Nat) (v:V),pu n v=true→pu (n+1) v=true:=sv (λ yy=>rfl) (λ yy yy=>rfl) (λ yy yy=>rfl) λ yy yy=>dW.mpr
theorem bu (n m:Nat) (v:V) (h:n≤m) (k:pu n v=true):pu m v=true:=by
 induction h with
 |refl=>exact k
 |step _ ih=>exact zk _ v ih
theorem xW {σ:St} {a b:V} {Q:Bool→Prop} (ha:pu 20 a=true) (hb:pu 20 b=true) (q:Q (decide (a=b))):sb σ a b Q:=by
 have h1:=gg σ 20 a ha
 have h2:=gg σ 20 b hb
 have h:∃d e,du σ a d∧du σ b e∧d.depth≤20∧e.depth≤20∧∃r:Bool,(r=true↔d=e)∧Q r:=
  ⟨_,_,h1.1,h2.1,h1.2,h2.2,_,decide_eq_true_iff.trans ⟨congrArg hZ,hY _ _ _ _ ha hb⟩,q⟩
 exact sx (f:=λ l=>l.all (pu 19)) (P:=λ a=>(∃d e,du σ a d∧du σ b e∧d.depth≤20∧e.depth≤20∧∃r:Bool,(r=true↔d=e)∧Q r)→sb σ a b Q) (λ h=>by unfold sb;exact h) (λ yy h=>by unfold sb;exact h) (λ yy h=>by unfold sb;exact h) (λ yy yy h=>by unfold sb;exact h) ha h
theorem ua {σ:St} {a b:V} {Q:Bool→Prop} (ha:pu 20 a=true) (hb:pu 20 b=true) (q:Q (!decide (a=b))):bc .ne σ a b Q:=by unfold bc;exact xW (Q:=λ r=>Q (!r)) ha hb q
theorem uC {σ:St} {a b:Bool} {Q:Bool→Prop} (q:Q (a==b)):sb σ (.bool a) (.bool b) Q:=by unfold sb;exact q
noncomputable def Hx:List (Int×Int):=[(20,0),(9,1),(10,2),(11,3),(12,4),(13,5),(14,6),(15,7),(16,8),(17,9),(18,10),(19,11),(1,12),(4,13)]
theorem mR {t:Nat} (h:64≤t):Hx.lookup (t:Int)=none:=
 List.lookup_eq_none_iff.mpr λ p hp=>bne_iff_ne.mpr λ e=>absurd ((by decide:∀p∈Hx,p.1<64) p hp) (Int.not_lt.mpr (e▸KP.mpr h))
theorem mH:ag (.g "inner_kinds")=some (["row"],["row","sort"],fU):=by rfl
theorem rK:ag (.g "row_level")=some (["sort"],["sort"],iH):=by rfl
theorem oV:ag (.g "row_length")=some (["sort"],["sort"],gE):=by rfl
theorem ji:ag (.g "check_kind_row")=some (["kt","row"],["kt","row","sort","inner"],d5):=by rfl
theorem mJ:ag (.g "check_named")=some (["kt","row"],["kt","row"],fV):=by rfl
theorem o8:ag (.g "check_args")=some (["kt","args"],["kt","args","arg"],gL):=by rfl
theorem rM:ag (.g "may_stand")=some (["kt","k"],["kt","k","sort"],iJ):=by rfl
theorem o7:ag (.g "class_kind")=some (["kt","tid","args"],["kt","tid","args"],gK):=by rfl
theorem pe:ag (.g "array_kind")=some (["kt","elem"],["kt","elem"],gN):=by rfl
theorem tx:ag (.g "var_kind")=some (["kt","i"],["kt","i"],jD):=by rfl
theorem yr:ag (.g "is_var")=some (["kt","k"],["kt","k","sort"],nM):=by rfl
theorem vC:ag (.g "op_sort")=some (["op"],["op"],lH):=by rfl
theorem mx:ag (.g "plain_names")=some (["count"],["count","out","place"],fK):=by rfl
theorem vD:ag (.g "new_asm")=some (["store","name"],["store","name"],lI):=by rfl
theorem oU:ag (.g "sort_flags")=some (["sort","flags"],["sort","flags"],gD):=by rfl
theorem tK:ag (.g "add_type")=some (["store","asm","name","sort","flags","base","params"],["store","asm","name","sort","flags","base","params","tid","key"],jO):=by rfl
theorem rT:ag (.g "add_field")=some (["store","tid","name","kind","access","flags"],["store","tid","name","kind","access","flags","t","fid"],iP):=by rfl
theorem oY:ag (.g "kept_flags")=some (["flags"],["flags"],gH):=by rfl
theorem pf:ag (.g "add_method")=some (["store","tid","name","access","flags","ret","params"],["store","tid","name","access","flags","ret","params","t","mid"],gO):=by rfl
theorem my:ag (.g "note_method")=some (["store","mid"],["store","mid","m","t"],fL):=by rfl
theorem mw:ag (.g "set_generic")=some (["store","mid","gnames","gbounds"],["store","mid","gnames","gbounds","m","place"],fJ):=by rfl
theorem tC:ag (.g "set_body")=some (["store","mid","locals_","maxstack","code","clauses"],["store","mid","locals_","maxstack","code","clauses","rows","ins","edges","clause"],jF):=by rfl
theorem tD:ag (.g "put_once")=some (["rows","row"],["rows","row"],jG):=by rfl
theorem tM:ag (.g "add_impl")=some (["store","tid","body_mid","decl_owner","decl_mid"],["store","tid","body_mid","decl_owner","decl_mid"],jQ):=by rfl
theorem tL:ag (.g "add_prop")=some (["store","tid","name","kind","getter","setter","index_kinds"],["store","tid","name","kind","getter","setter","index_kinds"],jP):=by rfl
theorem rU:ag (.g "add_event")=some (["store","tid","name","kind","adder","remover"],["store","tid","name","kind","adder","remover"],iQ):=by rfl
theorem rJ:ag (.g "same_defs")=some (["store1","asm1","store2","asm2"],["store1","asm1","store2","asm2","own1","own2","index","paths1","paths2","place"],iG):=by rfl
theorem tJ:ag (.g "asm_name")=some (["store","asm"],["store","asm"],jN):=by rfl
theorem rL:ag (.g "own_types")=some (["store","asm"],["store","asm"],iI):=by rfl
theorem lM:ag (.g "standing")=some (["rows","n","word"],["rows","n","word"],jE):=by rfl
theorem fX:ag (.g "type_path")=some (["paths","tid"],["paths","tid","t","out"],iF):=by rfl
theorem oX:ag (.g "learn_kind")=some (["paths","k"],["paths","k","todo","at","inner","path"],gG):=by rfl
theorem oW:ag (.g "path_parts")=some (["paths","k"],["paths","k"],gF):=by rfl
theorem rR:ag (.g "kind_path")=some (["paths","k"],["paths","k","row"],iN):=by rfl
theorem mC:ag (.g "method_path")=some (["paths","mref"],["paths","mref","owner","mid","margs"],fO):=by rfl
theorem mD:ag (.g "method_name")=some (["paths","mid"],["paths","mid","m"],fP):=by rfl
theorem o6:ag (.g "field_path")=some (["paths","fref"],["paths","fref","f"],gJ):=by rfl
theorem gS:ag (.g "member_name")=some (["paths","mid"],["paths","mid","m","owner"],fQ):=by rfl
theorem o9:ag (.g "bound_rows")=some (["paths","bounds"],["paths","bounds"],gM):=by rfl
theorem rI:ag (.g "type_told")=some (["paths","tid"],["paths","tid","t","head","generic","fields","methods","impls","props","events","laid"],iE):=by rfl
theorem oZ:ag (.g "field_told")=some (["paths","fid"],["paths","fid","f"],gI):=by rfl
theorem mA:ag (.g "method_told")=some (["paths","mid"],["paths","mid","m","head","sig"],fM):=by rfl
theorem rS:ag (.g "body_told")=some (["paths","body"],["paths","body","deep","code","clauses"],iO):=by rfl
theorem dL:ag (.g "operand_path")=some (["paths","sort","operand"],["paths","sort","operand"],eY):=by rfl
theorem tI:ag (.g "_law_draw")=some (["w","n"],["w","n","nums","i","k"],jM):=by rfl
theorem mE:ag (.g "_law_members")=some (["w","menu","words","many"],["w","menu","words","many","first","stride","out","j","name","row"],fR):=by rfl
theorem vE:ag (.g "_law_one")=some (["w","d"],["w","d","t","rows"],lJ):=by rfl
theorem jX:ag (.g "_law_described")=some (["w"],["w","d","t","sort","row","j","of","rows","term"],bY):=by rfl
theorem tE:ag (.g "_law_swap")=some (["w","rows"],["w","rows","i","j","row"],jH):=by rfl
theorem tG:ag (.g "_law_next")=some (["w","rows","member"],["w","rows","member"],jJ):=by rfl
theorem rP:ag (.g "_law_moved")=some (["w","d","sort","t","member"],["w","d","sort","t","member"],iL):=by rfl
theorem rO:ag (.g "_law_other")=some (["w","d","one"],["w","d","one"],iK):=by rfl
theorem aW:ag (.g "_law_turn")=some (["w","d","way"],["w","d","way","at","sort","t","arg","member","body","of","rows","name","term","one","two"],d4):=by rfl
theorem mG:ag (.g "_law_changed")=some (["w","d"],["w","d","c","key","j"],fS):=by rfl
theorem tF:ag (.g "_law_once")=some (["rows"],["rows","out","row"],jI):=by rfl
theorem rQ:ag (.g "_law_alike")=some (["c","d"],["c","d","key"],iM):=by rfl
theorem lN:ag (.g "_law_kind")=some (["kt","own","term"],["kt","own","term"],jL):=by rfl
theorem tH:ag (.g "_law_make")=some (["store","own","d","t","turn","numbers"],["store","own","d","t","turn","numbers","kt","sort","rows","i","at","row","number","params"],jK):=by rfl
theorem vF:ag (.g "_law_lay")=some (["store","lib","d","turn"],["store","lib","d","turn","kt","app","own","numbers","code","sort","t","arg","member","owner","body","of","name","term","one","two"],eU):=by rfl
theorem rN:ag (.g "_law_world")=some (["junk"],["junk","store","asm","j","tid"],eT):=by rfl
theorem vG:ag (.g "_law_ask")=some (["w","a","x","b","y"],["w","a","x","b","y"],lK):=by rfl
theorem Hs:ag (.g "law")=some (["script"],["script","nums","w","a","lib_a","b","lib_b","d","third","fourth","x","y","u","v"],jh):=by rfl
theorem jk:ag (.m "KindTable" "__init__")=some (["self"],["self","number","row"],d7):=by rfl
theorem jY:ag (.m "KindTable" "row")=some (["self","k"],["self","k"],ez):=by rfl
theorem jZ:ag (.m "KindTable" "put")=some (["self","row"],["self","row","found","depth","weight","opened","level","inner","k"],bZ):=by rfl
theorem lO:ag (.m "TypeDef" "__init__")=some (["self","tid","name","sort","flags","base","params","asm"],["self","tid","name","sort","flags","base","params","asm","word"],c9):=by rfl
theorem j0:ag (.m "FieldDef" "__init__")=some (["self","fid","owner","name","kind","access","flags"],["self","fid","owner","name","kind","access","flags"],eB):=by rfl
theorem jj:ag (.m "MethodDef" "__init__")=some (["self","mid","owner","name","access","flags","ret","params"],["self","mid","owner","name","access","flags","ret","params"],d6):=by rfl
theorem rV:ag (.m "Body" "__init__")=some (["self","locals_","maxstack","code","clauses"],["self","locals_","maxstack","code","clauses"],iR):=by rfl
theorem pg:ag (.m "Store" "__init__")=some (["self"],["self"],gP):=by rfl
theorem ph:ag (.m "Paths" "__init__")=some (["self","store","own","index"],["self","store","own","index","place"],gR):=by rfl
theorem iS:ag (.m "Paths" "kind")=some (["self","k"],["self","k"],gQ):=by rfl
theorem cV:ag (.m "Paths" "kinds")=some (["self","ks"],["self","ks"],fW):=by rfl
noncomputable def pj:O→String→Option V
 | .inst _ c as,n=>if cT c n then cu as n else none
 |_,_=>none
noncomputable def zA:O→V→Option V
 | .list _ l,.int k=>c3 l k
 | .dict _ kd l,i=>if kk kd i then ae l i else none
 |_,_=>none
noncomputable def t7:O→Option (List V)
 | .list _ l=>some l
 |_=>none
noncomputable def zy:O→Option Nat
 | .list _ l=>some l.length
 | .dict _ _ l=>some l.length
 |_=>none
noncomputable def yu:O→String→V→Option O
 | .inst t c as,n,v=>if cT c n && decide (as.length≤90) then some (.inst t c (pi as n v)) else none
 |_,_,_=>none
section
variable {C:ak} {ρ:ax} {σ:St} {l:List Y} {r:Nat} {o:O} {v:V}
theorem cj {n:String} {Q:V→St→Prop} (g:σ.get r=some o) (h:pj o n=some v) (q:Q v σ):nN (.ref r) n σ Q:=by
 cases o with
 |inst t c as=>
  change (if cT c n=true then cu as n else none)=some v at h
  cases e:cT c n with
  |false=>rw [e] at h;cases h
  |true=>rw [e] at h;replace h:cu as n=some v:=h;unfold nN;simp only [g,h,e,true_and];exact q
 |list _ _=>cases h
 |dict _ _ _=>cases h
theorem bR {k:V} {Q:V→St→Prop} (g:σ.get r=some o) (h:zA o k=some v) (q:Q v σ):fb (.ref r) k σ Q:=by
 cases o with
 |inst t c as=>cases h
 |list t l=>
  cases k with
  |int k=>unfold zA at h;unfold fb;simp only [g,h];exact q
  |_=>cases h
 |dict t kd l=>
  have h:(if kk kd k=true then ae l k else none)=some v:=h
  cases e:kk kd k with
  |false=>rw [e] at h;cases h
  |true=>rw [e] at h;replace h:ae l k=some v:=h;unfold fb;simp only [g,h,e,true_and];exact q
theorem dO {k:Int} {l:List V} {Q:V→St→Prop} (h:c3 l k=some v) (q:Q v σ):fb (.tup l) (.int k) σ Q:=by
 unfold fb;simp only [h];exact q
theorem sj {k:Int} {s c:String} {Q:V→St→Prop} (h0:0≤k) (h1:k<1000) (h:dS s k.toNat=some c) (q:Q (.str c) σ):fb (.str s) (.int k) σ Q:=by
 unfold fb;simp only [h];exact ⟨h0,h1,q⟩
theorem bH {n:Nat} {Q:V→St→Prop} (g:σ.get r=some o) (h:zy o=some n) (q:Q (.int n) σ):kP (.ref r) σ Q:=by
 cases o with
 |inst t c as=>cases h
 |list t l=>cases h;unfold kP;simp only [g];exact q
 |dict t k l=>cases h;unfold kP;simp only [g];exact q
theorem GN {l:List V} {n:Nat} {Q:V→St→Prop} (h:l.length=n) (q:Q (.int n) σ):kP (.tup l) σ Q:=by
 subst h;unfold kP;exact q
theorem yV {l:List V} {Q:V→St→Prop} (q:Q (.tup l) σ):eD (.tup l) σ Q:=by unfold eD;exact q
theorem nS {l:List V} {Q:V→St→Prop} (g:σ.get r=some o) (h:t7 o=some l) (q:Q (.tup l) σ):eD (.ref r) σ Q:=by
 cases o with
 |list t l=>cases h;unfold eD;simp only [g];exact q
 |_=>cases h
theorem BF {i:Int} {Q:V→St→Prop} (h:0≤i) (k:i<10) (q:Q (.str (toString i)) σ):uQ (.int i) σ Q:=by unfold uQ;exact ⟨h,k,q⟩
theorem sg {b:Bool} {Q:Bool→Prop} (q:Q b):bg (.bool b) σ Q:=by unfold bg;exact q
theorem pD {i:Int} {Q:Bool→Prop} (h:i≠0) (q:Q true):bg (.int i) σ Q:=by unfold bg;show Q (decide (i≠0));rw [decide_eq_true h];exact q
theorem pE {i:Int} {Q:Bool→Prop} (h:i=0) (q:Q false):bg (.int i) σ Q:=by unfold bg;show Q (decide (i≠0));rw [decide_eq_false (λ k=>k h)];exact q
theorem Fm {b:Bool} {Q:Bool→Prop} (g:σ.get r=some o) (h:(t7 o).map (λ l=>!l.isEmpty)=some b) (q:Q b):bg (.ref r) σ Q:=by
 cases o with
 |list t l=>cases h;unfold bg;simp only [g];exact q
 |_=>cases h
theorem yF {P:Prop} {l:List V} (g:σ.get r=some o) (h:t7 o=some l) (q:P):isList (.ref r) σ∧P:=by
 cases o with
 |list t l=>unfold isList;simp only [g,true_and];exact q
 |_=>cases h
theorem vg {t:Tg} {kd:Nat} {l:List (V×V)} {P:Prop} (g:σ.get r=some (.dict t kd l)) (q:P):ed (.ref r) σ∧P:=by
 unfold ed;simp only [g,true_and];exact q
theorem JJ {l:List (Int×Int)} {P:Prop} (q:P):ed (.gdict l) σ∧P:=by unfold ed;exact ⟨trivial,q⟩
theorem oo {t:Tg} {l:List V} {Q:V→St→Prop} (g:σ.get r=some (.list t l)) (h:l.length<aN) (q:Q .none (σ.put r (.list t (l++[v])))):nq (.ref r) v σ Q:=by
 unfold nq;simp only [g];exact ⟨h,q⟩
theorem Iv {t:Tg} {l:List V} {Q:V→St→Prop} (g:σ.get r=some (.list t l)) (h:l.getLast? =some v) (q:Q v (σ.put r (.list t l.dropLast))):nc (.ref r) σ Q:=by
 unfold nc;simp only [g,h];exact q
theorem IP {l:List (Int×Int)} {i j:Int} {Q:V→St→Prop} (q:Q (.int ((l.lookup i).getD j)) σ):jv (.gdict l) (.int i) (.int j) σ Q:=by unfold jv;exact q
theorem He {t:Tg} {kd:Nat} {k d:V} {l:List (V×V)} {Q:V→St→Prop} (g:σ.get r=some (.dict t kd l)) (hk:kk kd k=true) (h:(ae l k).getD d=v) (q:Q v σ):jv (.ref r) k d σ Q:=by
 subst h;unfold jv;simp only [g];exact ⟨hk,q⟩
theorem IN {t:Tg} {kd:Nat} {k d:V} {l:List (V×V)} {Q:V→St→Prop} (g:σ.get r=some (.dict t kd l)) (hk:kk kd k=true) (hl:l.length<aN) (h:ae l k=some v) (q:Q v σ):fE (.ref r) k d σ Q:=by
 unfold fE;simp only [g,h];exact ⟨hk,hl,q⟩
theorem IO {t:Tg} {kd:Nat} {k d:V} {l:List (V×V)} {Q:V→St→Prop} (g:σ.get r=some (.dict t kd l)) (hk:kk kd k=true) (hl:l.length<aN) (h:ae l k=none) (q:Q d (σ.put r (.dict t kd (l++[(k,d)])))):fE (.ref r) k d σ Q:=by
 unfold fE;simp only [g,h];exact ⟨hk,hl,q⟩
theorem sn {t:Tg} {kd:Nat} {k:V} {l:List (V×V)} {Q:St→Prop} (g:σ.get r=some (.dict t kd l)) (hk:kk kd k=true) (hl:l.length<aN) (q:Q (σ.put r (.dict t kd (bz l k v)))):cW (.ref r) k v σ Q:=by
 unfold cW;simp only [g];exact ⟨hk,hl,q⟩
theorem FM {t:Tg} {k:Int} {l:List V} {Q:St→Prop} (g:σ.get r=some (.list t l)) (h0:0≤k) (h1:k<l.length) (q:Q (σ.put r (.list t (l.set k.toNat v)))):cW (.ref r) (.int k) v σ Q:=by
 unfold cW;simp only [g];exact ⟨h0,h1,q⟩
theorem sp {n:String} {o':O} {Q:St→Prop} (g:σ.get r=some o) (h:yu o n v=some o') (q:Q (σ.put r o')):fh (.ref r) n v σ Q:=by
 cases o with
 |inst t c as=>
  change (if (cT c n && decide (as.length≤90))=true then some (O.inst t c (pi as n v)) else none)=some o' at h
  cases e:cT c n && decide (as.length≤90) with
  |false=>rw [e] at h;cases h
  |true=>rw [e] at h;cases h;rw [Bool.and_eq_true,decide_eq_true_iff] at e;unfold fh;simp only [g];exact ⟨e.1,e.2,q⟩
 |list _ _=>cases h
 |dict _ _ _=>cases h
theorem H6 {t:Tg} {k:Int} {l:List V} {Q:V→St→Prop} (g:σ.get r=some (.list t l)) (h:0≤k) (q:Q (.ref σ.len) (σ.new (.list aa (l.take k.toNat)))):jn (.ref r) (.int k) σ Q:=by
 unfold jn;simp only [g];exact ⟨h,q⟩
theorem H7 {l:List V} {Q:V→St→Prop} (g:σ.get r=some o) (h:t7 o=some l) (q:Q (.ref σ.len) (σ.new (.list aa l))):iW (.ref r) σ Q:=by
 cases o with
 |list t l=>cases h;unfold iW;simp only [g];exact q
 |_=>cases h
theorem FL {s:String} {k:Nat} {Q:V→St→Prop} (h1:1≤k) (h2:k≤s.length) (h3:s.length≤1000) (q:Q (.str (String.ofList (s.toList.drop k))) σ):ia (.str s) k σ Q:=by
 unfold ia;exact ⟨h1,h2,h3,q⟩
theorem mi {l:List V} {Q:List V→(St→Prop)→Prop} (q:Q l λ yy=>True):cq (.tup l) σ Q:=by unfold cq;exact q
theorem gu {t:Tg} {l:List V} {Q:List V→(St→Prop)→Prop} (g:σ.get r=some (.list t l)) (q:Q l λ σ'=>σ'.get r=some (.list t l)):cq (.ref r) σ Q:=by
 unfold cq;simp only [g];exact q
theorem GF {l:List (Int×Int)} {i:Int} {b:Bool} {Q:Bool→Prop} (h:(l.lookup i).isSome=b) (q:Q b):i6 σ (.int i) (.gdict l) Q:=by subst h;unfold i6;exact q
theorem rb {t:Tg} {kd:Nat} {k:V} {l:List (V×V)} {b:Bool} {Q:Bool→Prop} (g:σ.get r=some (.dict t kd l)) (hk:kk kd k=true) (h:(ae l k).isSome=b) (q:Q b):i6 σ k (.ref r) Q:=by
 subst h;unfold i6;simp only [g];exact ⟨hk,q⟩
theorem isin {a b:V} {Q:Bool→Prop} (q:i6 σ a b Q):bc .isin σ a b Q:=by unfold bc;exact q
theorem n9 {a b:V} {Q:Bool→Prop} (q:i6 σ a b λ r=>Q (!r)):bc .notin σ a b Q:=by unfold bc;exact q
theorem Ix {b:Bool} {Q:Bool→Prop} (h:(!eJ v)=b) (q:Q b):bc .is σ v .none Q:=by subst h;unfold bc;exact q
theorem xH {b:Bool} {Q:Bool→Prop} (h:eJ v=b) (q:Q b):bc .isnot σ v .none Q:=by subst h;unfold bc;exact q
end
section
variable {σ:St} {x y:Int} {s t:String} {Q:Bool→Prop} {p:Prop}
theorem EO [Decidable p] (h:¬p) (q:Q false):Q (decide p):=by rw [decide_eq_false h];exact q
theorem Hf [Decidable p] (h:p) (q:Q true):Q (decide p):=by rw [decide_eq_true h];exact q
theorem IL {p r:Prop} [Decidable p] [Decidable r] (h:p→r) (k:r→p):decide p=decide r:=Lf.mpr ⟨h,k⟩
theorem Jr (q:Q (decide (x≤y))):bc .le σ (.int x) (.int y) Q:=by unfold bc;exact q
theorem Iu (q:Q (decide (x<y))):bc .lt σ (.int x) (.int y) Q:=by unfold bc;exact q
theorem IA (q:Q (decide (y≤x))):bc .ge σ (.int x) (.int y) Q:=by unfold bc;exact q
theorem Iz (q:Q (decide (y<x))):bc .gt σ (.int x) (.int y) Q:=by unfold bc;exact q
theorem IM (q:Q (decide (x=y))):bc .eq σ (.int x) (.int y) Q:=by unfold bc;exact xW rfl rfl (IL (λ h=>congrArg V.int h) V.int.inj▸q)
theorem Jm (q:Q (!decide (x=y))):bc .ne σ (.int x) (.int y) Q:=ua rfl rfl (IL (λ h=>congrArg V.int h) V.int.inj▸q)
theorem Jg (q:Q (decide (s=t))):bc .eq σ (.str s) (.str t) Q:=by unfold bc;exact xW rfl rfl (IL (λ h=>congrArg V.str h) V.str.inj▸q)
theorem Iw (h:¬x≤y) (q:Q false):bc .le σ (.int x) (.int y) Q:=Jr (EO h q)
theorem Jq (h:x<y) (q:Q true):bc .lt σ (.int x) (.int y) Q:=Iu (Hf h q)
theorem GG (h:¬x<y) (q:Q false):bc .lt σ (.int x) (.int y) Q:=Iu (EO h q)
theorem JO (h:y≤x) (q:Q true):bc .ge σ (.int x) (.int y) Q:=IA (Hf h q)
theorem HP (h:¬y≤x) (q:Q false):bc .ge σ (.int x) (.int y) Q:=IA (EO h q)
theorem Iy (h:y<x) (q:Q true):bc .gt σ (.int x) (.int y) Q:=Iz (Hf h q)
theorem G5 (h:¬y<x) (q:Q false):bc .gt σ (.int x) (.int y) Q:=Iz (EO h q)
theorem EN (h:x=y) (q:Q true):bc .eq σ (.int x) (.int y) Q:=IM (Hf h q)
theorem vo (h:x≠y) (q:Q false):bc .eq σ (.int x) (.int y) Q:=IM (EO h q)
theorem EM (h:x=y) (q:Q false):bc .ne σ (.int x) (.int y) Q:=Jm (Hf (Q:=λ r=>Q (!r)) h q)
theorem Jf (h:s≠t) (q:Q false):bc .eq σ (.str s) (.str t) Q:=Jg (EO h q)
end
section
variable {C:ak} {ρ:ax} {σ:St} {l:List Y} {v:V} {vs:List V} {Q:Option V→ax→St→Prop} {x ob:X} {a b:List Y} {i:Nat} {f n:String} {xs:List X} {r:Nat} {o:O}
theorem aU (h:∀Q,Q true σ→fe C x ρ σ Q) (q:ah C (a++l) ρ σ Q):ah C (.ite x a b::l) ρ σ Q:=ck (h _ q)
theorem ay (h:∀Q,Q false σ→fe C x ρ σ Q) (q:ah C (b++l) ρ σ Q):ah C (.ite x a b::l) ρ σ Q:=ck (h _ q)
theorem br (h:∀Q,Q v σ→aH C x ρ σ Q) (q:ah C l (d9 ρ i v) σ Q):ah C (.set (.loc i) x::l) ρ σ Q:=h _ q
theorem bj (h:∀Q,Q v σ→aH C x ρ σ Q) (q:Q (some v) ρ σ):ah C (.ret x::l) ρ σ Q:=h (λ v σ1=>Q (some v) ρ σ1) q
theorem dj (h:∀Q,Q vs σ→aI C xs ρ σ Q) (q:C (.g f) vs σ λ v σ1=>ah C l (d9 ρ i v) σ1 Q):ah C (.set (.loc i) (.call f xs)::l) ρ σ Q:=h _ q
theorem nX (h:∀Q,Q vs σ→aI C xs ρ σ Q) (q:C (.g f) vs σ λ v σ1=>Q (some v) ρ σ1):ah C (.ret (.call f xs)::l) ρ σ Q:=h (λ vs σ1=>C (.g f) vs σ1 λ v σ2=>Q (some v) ρ σ2) q
theorem yG (h:∀Q,Q vs σ→aI C xs ρ σ Q) (q:C (.g f) vs σ λ yy σ1=>ah C l ρ σ1 Q):ah C (.ex (.call f xs)::l) ρ σ Q:=h (λ vs σ1=>C (.g f) vs σ1 λ yy σ2=>ah C l ρ σ2 Q) q
theorem jr {Q:V→St→Prop} {t:Tg} {c:String} {as:List (String×V)} (h:∀Q,Q (.ref r) σ→aH C ob ρ σ Q) (g:σ.get r=some (.inst t c as)) (hm:(c,n)∈mzz) (ha:cu as n=none)
  (q:aI C xs ρ σ λ vs σ2=>C (.m c n) (.ref r::vs) σ2 Q):aH C (.meth ob n xs) ρ σ Q:=h _ (by simp only [g];exact ⟨hm,ha,q⟩)
theorem BQ {t:Tg} {c:String} {as:List (String×V)} (h:∀Q,Q (.ref r) σ→aH C ob ρ σ Q) (g:σ.get r=some (.inst t c as)) (hm:(c,n)∈mzz) (ha:cu as n=none)
  (hv:∀Q,Q vs σ→aI C xs ρ σ Q) (q:C (.m c n) (.ref r::vs) σ λ v σ1=>Q (some v) ρ σ1):ah C (.ret (.meth ob n xs)::l) ρ σ Q:=jr (Q:=λ v σ1=>Q (some v) ρ σ1) h g hm ha (hv _ q)
theorem H9 {t:Tg} {c:String} {as:List (String×V)} (h:∀Q,Q (.ref r) σ→aH C ob ρ σ Q) (g:σ.get r=some (.inst t c as)) (hm:(c,n)∈mzz) (ha:cu as n=none)
  (hv:∀Q,Q vs σ→aI C xs ρ σ Q) (q:C (.m c n) (.ref r::vs) σ λ v σ1=>ah C l (d9 ρ i v) σ1 Q):ah C (.set (.loc i) (.meth ob n xs)::l) ρ σ Q:=jr (Q:=λ v σ1=>ah C l (d9 ρ i v) σ1 Q) h g hm ha (hv _ q)
theorem cJ {t:Tg} {l':List V} (ho:∀Q,Q (.ref r) σ→aH C ob ρ σ Q) (g:σ.get r=some (.list t l')) (ha:∀Q,Q v σ→aH C x ρ σ Q) (h:l'.length<aN) (q:ah C l ρ (σ.put r (.list t (l'++[v]))) Q):ah C (.ex (.lapp ob x)::l) ρ σ Q:=
 ho _ (yF g rfl (ha _ (oo g h q)))
theorem FN {o':O} (hx:∀Q,Q v σ→aH C x ρ σ Q) (ho:∀Q,Q (.ref r) σ→aH C ob ρ σ Q) (g:σ.get r=some o) (h:yu o n v=some o') (q:ah C l ρ (σ.put r o') Q):ah C (.set (.attr ob n) x::l) ρ σ Q:=
 hx _ (ho _ (sp g h q))
theorem pN {t:Tg} {kd:Nat} {l':List (V×V)} {ix:X} {k:V} (hx:∀Q,Q v σ→aH C x ρ σ Q) (ho:∀Q,Q (.ref r) σ→aH C ob ρ σ Q) (hi:∀Q,Q k σ→aH C ix ρ σ Q) (g:σ.get r=some (.dict t kd l')) (hk:kk kd k=true) (hl:l'.length<aN)
  (q:ah C l ρ (σ.put r (.dict t kd (bz l' k v))) Q):ah C (.set (.sub ob ix) x::l) ρ σ Q:=hx _ (ho _ (hi _ (sn g hk hl q)))
theorem zd {t:Tg} {l':List V} {ix:X} {k:Nat} (hx:∀Q,Q v σ→aH C x ρ σ Q) (ho:∀Q,Q (.ref r) σ→aH C ob ρ σ Q) (hi:∀Q,Q (.int (k:Nat)) σ→aH C ix ρ σ Q) (g:σ.get r=some (.list t l')) (hl:k<l'.length)
  (q:ah C l ρ (σ.put r (.list t (l'.set k v))) Q):ah C (.set (.sub ob ix) x::l) ρ σ Q:=hx _ (ho _ (hi _ (FM g (Kp k) (Lm.mpr hl) q)))
theorem dl {k:Bool} {is:List Nat} {body:List Y} {items:List V} {guard:St→Prop} (h:∀Q,Q items guard σ→vf C x ρ σ Q)
  (q:c2 guard (λ v ρ' σ2 K=>tV ρ' k is v λ ρ''=>ah C body ρ'' σ2 K) items ρ σ (λ o ρ' σ'=>match o with
    |none=>ah C l ρ' σ' Q
    |some v=>Q (some v) ρ' σ')):ah C (.for_ k is x body::l) ρ σ Q:=gU (h _ q)
end
section
variable {C:ak} {ρ:ax} {σ:St} {v:V} {vs:List V} {Q:List V→St→Prop} {x ob:X} {f n:String} {xs ys:List X} {r:Nat}
theorem aE (h:∀Q,Q v σ→aH C x ρ σ Q) (q:aI C xs ρ σ λ vs σ2=>Q (v::vs) σ2):aI C (x::xs) ρ σ Q:=h _ q
theorem zR {t:Tg} {c:String} {as:List (String×V)} (h:∀Q,Q (.ref r) σ→aH C ob ρ σ Q) (g:σ.get r=some (.inst t c as)) (hm:(c,n)∈mzz) (ha:cu as n=none)
  (hv:∀Q,Q vs σ→aI C xs ρ σ Q) (q:C (.m c n) (.ref r::vs) σ λ v σ1=>aI C ys ρ σ1 λ vs σ2=>Q (v::vs) σ2):aI C (.meth ob n xs::ys) ρ σ Q:=jr (Q:=λ v σ1=>aI C ys ρ σ1 λ vs σ2=>Q (v::vs) σ2) h g hm ha (hv _ q)
theorem gZ (hv:∀Q,Q vs σ→aI C xs ρ σ Q) (q:C (.g f) vs σ λ v σ1=>aI C ys ρ σ1 λ vs σ2=>Q (v::vs) σ2):aI C (.call f xs::ys) ρ σ Q:=hv (λ vs σ1=>C (.g f) vs σ1 λ v σ2=>aI C ys ρ σ2 λ vs σ3=>Q (v::vs) σ3) q
end
theorem bX:("Paths","kind")∈mzz:=by decide
theorem cG:("Paths","kinds")∈mzz:=by decide
theorem k7:("KindTable","row")∈mzz:=by decide
theorem sS:("KindTable","put")∈mzz:=by decide
theorem i0 {n:Nat} (h:n≠0):(n:Int)≠0:=Int.ofNat_ne_zero.mpr h
theorem ui {l:List V} {i:Nat} {v:V} (h:l[i]? =some v):c3 l (i:Int)=some v:=by
 unfold c3;rw [if_pos (Int.natCast_nonneg i),Int.toNat_natCast];exact h
theorem eu {α:Type} {f:α→V} {l:List α} {i:Nat} {a:α} (h:l[i]? =some a):c3 (l.map f) (i:Int)=some (f a):=ui (by rw [List.getElem?_map,h];rfl)
theorem nf {a i j:Nat} (h:Nat.beq i j=false):a+i≠a+j:=λ e=>KM h (Lj e)
theorem JI {a i:Nat} (h:Nat.beq i 0=false):a+i≠a:=nf (j:=0) h
theorem Ip {a i:Nat} (h:Nat.beq 0 i=false):a≠a+i:=nf (i:=0) h
theorem aX {σ:St} {n:Nat} {o:O} (h:n<σ.len):(σ.put n o).get n=some o:=getE rfl h
theorem be {σ:St} {o:O}:(σ.new o).get σ.len=some o:=gY rfl
theorem px {σ:St} {n m:Nat} {o:O} (h:m<σ.len):m<(σ.put n o).len:=by rw [aj];exact h
theorem AB {α:Type} {P:α→Prop}:∀a∈([]:List α),P a:=λ yy h=>nomatch h
theorem GA {α:Type} {P:Nat→α→Prop}:∀(j:Nat) (r:α),([]:List α)[j]? =some r→P j r:=λ yy yy h=>nomatch h
theorem bO {σ:St} {r:Nat} {k:Int} {t:Tg} {l:List V} {v:V} {Q:V→St→Prop} (g:σ.get r=some (.list t l)) (h:c3 l k=some v) (q:Q v σ):fb (.ref r) (.int k) σ Q:=bR g h q
theorem bp {α:Type} {σ:St} {r k:Nat} {t:Tg} {f:α→V} {l:List α} {a:α} {Q:V→St→Prop} (g:σ.get r=some (.list t (l.map f))) (h:l[k]? =some a) (q:Q (f a) σ):fb (.ref r) (.int (k:Nat)) σ Q:=bR g (eu h) q
theorem FJ {σ:St} {r k:Nat} {t:Tg} {l:List V} {a:V} {Q:V→St→Prop} (g:σ.get r=some (.list t l)) (h:l[k]? =some a) (q:Q a σ):fb (.ref r) (.int (k:Nat)) σ Q:=bR g (ui h) q
theorem aA {σ:St} {n m:Nat} {o o':O} (h:m≠n) (g:σ.get m=some o'):(σ.put n o).get m=some o':=(aR h).trans g
theorem bT {σ:St} {m:Nat} {o o':O} (g:σ.get m=some o'):(σ.new o).get m=some o':=(aP (ac g)).trans g
local macro_rules
  | `(tactic| simp_all! [$a:term]) => `(tactic| ((first | apply cj $a rfl | apply bR $a rfl | apply bH $a rfl | apply $a); try assumption))
  | `(tactic| simp_all! [$a:term, $b,*]) => `(tactic| ((first | apply cj $a rfl | apply bR $a rfl | apply bH $a rfl | apply $a); simp_all! [$b,*]))
  | `(tactic| dsimp! [$b,*]) => `(tactic| (intro _ _; simp_all! [$b,*]))
  | `(tactic| dsimp!) => `(tactic| (intro _ _; assumption))
  | `(tactic| exists $a:term) => `(tactic| first | exact $a | (refine aA (nf rfl) ?_; exists $a) | (refine aA (JI rfl) ?_; exists $a) | (refine aA (Ip rfl) ?_; exists $a) | (refine bT ?_; exists $a) | (refine aA (by omega) ?_; exists $a))
noncomputable def yB (u v:V) (f:Int→Int→Bool):Option Bool:=match u with
 | .int x=>(match v with| .int y=>some (f x y)|_=>none)
 |_=>none
noncomputable def HJ (u v:V):Option Bool:=match u with
 | .str x=>(match v with| .str y=>some (decide (x=y))|_=>none)
 |_=>none
noncomputable def H3 (v:V) (b:Bool):Option Bool:=match v with
 | .none=>some b
 |_=>none
noncomputable def vX (op:yJ) (u v:V):Option Bool:=match op with
 | .eq=>(yB u v λ x y=>decide (x=y)).or (HJ u v)
 | .ne=>yB u v λ x y=>!decide (x=y)
 | .lt=>yB u v λ x y=>decide (x<y)
 | .le=>yB u v λ x y=>decide (x≤y)
 | .gt=>yB u v λ x y=>decide (x>y)
 | .ge=>yB u v λ x y=>decide (x≥y)
 | .is=>H3 v (!eJ u)
 | .isnot=>H3 v (eJ u)
 |_=>none
noncomputable def Fh (u v:V):Option V:=match u with
 | .tup l=>(match v with| .int k=>c3 l k|_=>none)
 | .str s=>(match v with| .int k=>if 0≤k∧k<1000 then (dS s k.toNat).map .str else none|_=>none)
 |_=>none
noncomputable def Fj:A6→V→V→Option V
 | .add,.int x,.int y=>some (.int (x+y))
 | .sub,.int x,.int y=>some (.int (x - y))
 |_,_,_=>none
noncomputable def Fi:V→Option V
 | .tup l=>some (.int l.length)
 |_=>none
noncomputable def Fg:V→Option Bool
 | .bool b=>some b
 |_=>none
mutual
noncomputable def qc:Nat→X→ax→Option V
 |0,_,_=>none
 |n+1,x,ρ=>match x with
  | .loc i=>bK ρ i
  | .gn s=>G s
  | .int i=>some (.int i)
  | .str s=>some (.str s)
  | .none=>some .none
  | .tt b=>some (.bool b)
  | .neg i=>some (.int (-i))
  | .tup l=>(pZ n l ρ).map .tup
  | .sub o i=>(qc n o ρ).bind λ u=>(qc n i ρ).bind λ v=>Fh u v
  | .bin op a b=>(qc n a ρ).bind λ u=>(qc n b ρ).bind λ v=>Fj op u v
  | .len a=>(qc n a ρ).bind Fi
  | .cmp op a b=>(qc n a ρ).bind λ u=>(qc n b ρ).bind λ v=>(vX op u v).map .bool
  | .bool k l=>HM n k l ρ
  | .ite t a b=>(wJ n t ρ).bind λ r=>match r with|true=>qc n a ρ|false=>qc n b ρ
  |_=>none
noncomputable def pZ:Nat→List X→ax→Option (List V)
 |0,_,_=>none
 |n+1,l,ρ=>match l with
  |[]=>some []
  |x::l=>(qc n x ρ).bind λ v=>(pZ n l ρ).map (v::·)
noncomputable def HM:Nat→Bool→List X→ax→Option V
 |0,_,_,_=>none
 |n+1,k,l,ρ=>match l with
  |[]=>none
  |x::l=>(qc n x ρ).bind λ v=>match l with
   |[]=>some v
   |_::_=>(Fg v).bind λ b=>match b==k with|true=>HM n k l ρ|false=>some v
noncomputable def wJ:Nat→X→ax→Option Bool
 |0,_,_=>none
 |n+1,x,ρ=>match x with
  | .cmp op a b=>(qc n a ρ).bind λ u=>(qc n b ρ).bind λ v=>vX op u v
  | .bool k l=>zu n k l ρ
  | .not_ a=>(wJ n a ρ).map (!·)
  |_=>none
noncomputable def zu:Nat→Bool→List X→ax→Option Bool
 |0,_,_,_=>none
 |n+1,k,l,ρ=>match l with
  |[]=>some k
  |x::l=>(wJ n x ρ).bind λ b=>match b==k with|true=>zu n k l ρ|false=>some b
end
theorem iV {u v:V} {f:Int→Int→Bool} {b:Bool} (h:yB u v f=some b):∃x y,u=.int x∧v=.int y∧f x y=b:=by
 cases u with
 |int x=>
  cases v with
  |int y=>exact ⟨x,y,rfl,rfl,J4 h⟩
  |_=>cases h
 |_=>cases h
theorem Bo {u v:V} {b:Bool} (h:HJ u v=some b):∃x y,u=.str x∧v=.str y∧decide (x=y)=b:=by
 cases u with
 |str x=>
  cases v with
  |str y=>exact ⟨x,y,rfl,rfl,J4 h⟩
  |_=>cases h
 |_=>cases h
theorem vW {v:V} {a b:Bool} (h:H3 v a=some b):v=.none∧a=b:=by
 cases v with
 |none=>exact ⟨rfl,J4 h⟩
 |_=>cases h
theorem tR {op:yJ} {u v:V} {b:Bool} {σ:St} {Q:Bool→Prop} (h:vX op u v=some b) (q:Q b):bc op σ u v Q:=by
 cases op with
 |eq=>
  cases e:yB u v λ x y=>decide (x=y) with
  |some c=>
   have:c=b:=by
    have h:(yB u v λ x y=>decide (x=y)).or (HJ u v)=some b:=h
    rw [e] at h;exact J4 h
   subst this
   obtain ⟨x,y,rfl,rfl,rfl⟩:=iV e
   exact IM q
  |none=>
   have h:(yB u v λ x y=>decide (x=y)).or (HJ u v)=some b:=h
   rw [e] at h
   obtain ⟨x,y,rfl,rfl,rfl⟩:=Bo h
   exact Jg q
 |ne=>obtain ⟨x,y,rfl,rfl,rfl⟩:=iV h;exact Jm q
 |is=>obtain ⟨rfl,rfl⟩:=vW h;exact Ix rfl q
 |isnot=>obtain ⟨rfl,rfl⟩:=vW h;exact xH rfl q
 |isin=>cases h
 |notin=>cases h
 |le=>obtain ⟨x,y,rfl,rfl,rfl⟩:=iV h;exact Jr q
 |lt=>obtain ⟨x,y,rfl,rfl,rfl⟩:=iV h;exact Iu q
 |ge=>obtain ⟨x,y,rfl,rfl,rfl⟩:=iV h;exact IA q
 |gt=>obtain ⟨x,y,rfl,rfl,rfl⟩:=iV h;exact Iz q
theorem jg {α β:Type} {o:Option α} {f:α→Option β} {b:β} (h:o.bind f=some b):∃a,o=some a∧f a=some b:=by
 cases o with
 |none=>cases h
 |some a=>exact ⟨a,rfl,h⟩
theorem Ck {α β:Type} {o:Option α} {f:α→β} {b:β} (h:o.map f=some b):∃a,o=some a∧f a=b:=by
 cases o with
 |none=>cases h
 |some a=>exact ⟨a,rfl,J4 h⟩
structure vL (C:ak) (n:Nat):Prop where
 ev:∀x ρ σ v Q,qc n x ρ=some v→Q v σ→aH C x ρ σ Q
 evs:∀x ρ σ v Q,pZ n x ρ=some v→Q v σ→aI C x ρ σ Q
 ts:∀x ρ σ v Q,wJ n x ρ=some v→Q v σ→fe C x ρ σ Q
 bo:∀k x ρ σ v Q,HM n k x ρ=some v→Q v σ→lG C k x ρ σ Q
 al:∀k x ρ σ v Q,zu n k x ρ=some v→Q v σ→mK C k x ρ σ Q
theorem uR {α:Type} {P:α→Prop} {a b:α} (h:some a=some b) (q:P b):P a:=J4 h▸q
theorem j5 {α:Type} {a:α} {P:Prop} (h:(none:Option α)=some a):P:=by cases h
section
variable {C:ak} {n:Nat} {ρ:ax} {σ:St}
theorem BX {u w v:V} {Q:V→St→Prop} (h:Fh u w=some v) (q:Q v σ):fb u w σ Q:=by
 cases u with
 |tup l=>cases w with
  |int k=>exact dO h q
  |_=>exact j5 h
 |str s=>cases w with
  |int k=>
   have h:(if 0≤k∧k<1000 then (dS s k.toNat).map .str else none)=some v:=h
   by_cases hk:0≤k∧k<1000
   ·rw [if_pos hk] at h
    exact (Ck h).elim λ c e=>sj hk.1 hk.2 e.1 (show Q (.str c) σ from e.2▸q)
   ·rw [if_neg hk] at h;exact j5 h
  |_=>exact j5 h
 |_=>exact j5 h
theorem B6 {op:A6} {u w v:V} {Q:V→St→Prop} (h:Fj op u w=some v) (q:Q v σ):iD op u w σ Q:=by
 cases op with
 |add=>cases u with
  |int x=>cases w with
   |int y=>exact uR (P:=λ v=>Q v σ) h q
   |_=>exact j5 h
  |_=>exact j5 h
 |sub=>cases u with
  |int x=>cases w with
   |int y=>exact uR (P:=λ v=>Q v σ) h q
   |_=>exact j5 h
  |_=>exact j5 h
 |_=>exact j5 h
theorem BY {u v:V} {Q:V→St→Prop} (h:Fi u=some v) (q:Q v σ):kP u σ Q:=by
 cases u with
 |tup l=>exact GN rfl (uR (P:=λ v=>Q v σ) h q)
 |_=>exact j5 h
theorem Gf (I:vL C n) {x:X} {v:V} {Q:V→St→Prop} (h:qc (n+1) x ρ=some v) (q:Q v σ):aH C x ρ σ Q:=by
 cases x with
 |loc i=>exact (show (match bK ρ i with|some v=>Q v σ|none=>False) from (show bK ρ i=some v from h)▸q)
 |gn s=>exact (show (match G s with|some v=>Q v σ|none=>False) from (show G s=some v from h)▸q)
 |int i=>exact uR (P:=λ v=>Q v σ) h q
 |str i=>exact uR (P:=λ v=>Q v σ) h q
 |none=>exact uR (P:=λ v=>Q v σ) h q
 |tt i=>exact uR (P:=λ v=>Q v σ) h q
 |neg i=>exact uR (P:=λ v=>Q v σ) h q
 |tup l=>exact (Ck h).elim λ vs e=>I.evs l ρ σ vs (λ vs σ=>Q (.tup vs) σ) e.1 (e.2.symm▸q)
 |sub o i=>exact (jg h).elim λ u e=>(jg e.2).elim λ w e'=>I.ev o ρ σ u _ e.1 (I.ev i ρ σ w _ e'.1 (BX e'.2 q))
 |bin op a b=>exact (jg h).elim λ u e=>(jg e.2).elim λ w e'=>I.ev a ρ σ u _ e.1 (I.ev b ρ σ w _ e'.1 (B6 e'.2 q))
 |len a=>exact (jg h).elim λ u e=>I.ev a ρ σ u _ e.1 (BY e.2 q)
 |cmp op a b=>exact (jg h).elim λ u e=>(jg e.2).elim λ w e'=>(Ck e'.2).elim λ r e''=>I.ev a ρ σ u _ e.1 (I.ev b ρ σ w _ e'.1 (tR (Q:=λ r=>Q (.bool r) σ) e''.1 (e''.2.symm▸q)))
 |bool k l=>exact I.bo k l ρ σ v Q h q
 |ite t a b=>exact (jg h).elim λ r e=>I.ts t ρ σ r _ e.1 (by
   cases r with
   |false=>exact I.ev b ρ σ v Q e.2 q
   |true=>exact I.ev a ρ σ v Q e.2 q)
 |_=>exact j5 h
theorem BZ (I:vL C n) {l:List X} {v:List V} {Q:List V→St→Prop} (h:pZ (n+1) l ρ=some v) (q:Q v σ):aI C l ρ σ Q:=by
 cases l with
 |nil=>exact uR (P:=λ v=>Q v σ) h q
 |cons x l=>exact (jg h).elim λ u e=>(Ck e.2).elim λ w e'=>I.ev x ρ σ u _ e.1 (I.evs l ρ σ w (λ w σ=>Q (u::w) σ) e'.1 (e'.2.symm▸q))
theorem Ge (I:vL C n) {x:X} {v:Bool} {Q:Bool→St→Prop} (h:wJ (n+1) x ρ=some v) (q:Q v σ):fe C x ρ σ Q:=by
 cases x with
 |cmp op a b=>exact (jg h).elim λ u e=>(jg e.2).elim λ w e'=>I.ev a ρ σ u _ e.1 (I.ev b ρ σ w _ e'.1 (tR (Q:=λ r=>Q r σ) e'.2 q))
 |bool k l=>exact I.al k l ρ σ v Q h q
 |not_ a=>exact (Ck h).elim λ w e=>I.ts a ρ σ w (λ b σ1=>Q (!b) σ1) e.1 (e.2.symm▸q)
 |_=>exact j5 h
theorem yQ {u:V} {b:Bool} (h:Fg u=some b):u=.bool b:=by
 cases u with
 |bool c=>exact congrArg V.bool (J4 h)
 |_=>exact j5 h
theorem Gg (I:vL C n) {k:Bool} {l:List X} {v:V} {Q:V→St→Prop} (h:HM (n+1) k l ρ=some v) (q:Q v σ):lG C k l ρ σ Q:=by
 cases l with
 |nil=>exact j5 h
 |cons x l=>cases l with
  |nil=>exact (jg h).elim λ u e=>I.ev x ρ σ _ Q e.1 (uR (P:=λ v=>Q v σ) e.2 q)
  |cons y l=>
   refine (jg h).elim λ u e=>(jg e.2).elim λ b e'=>I.ev x ρ σ u _ e.1 ?_
   have hu:=yQ e'.1
   subst hu
   refine sg ?_
   have h:=e'.2
   cases hb:b==k with
   |false=>rw [hb] at h;exact uR (P:=λ v=>Q v σ) h q
   |true=>rw [hb] at h;exact I.bo k (y::l) ρ σ v Q h q
theorem Gh (I:vL C n) {k:Bool} {l:List X} {v:Bool} {Q:Bool→St→Prop} (h:zu (n+1) k l ρ=some v) (q:Q v σ):mK C k l ρ σ Q:=by
 cases l with
 |nil=>exact uR (P:=λ v=>Q v σ) h q
 |cons x l=>
  refine (jg h).elim λ u e=>I.ts x ρ σ u _ e.1 ?_
  have h:=e.2
  cases hb:u==k with
  |false=>rw [hb] at h;exact uR (P:=λ v=>Q v σ) h q
  |true=>rw [hb] at h;exact I.al k l ρ σ v Q h q
end
theorem wN (C:ak):∀n,vL C n
 |0=>⟨λ yy yy yy yy yy h=>j5 h,λ yy yy yy yy yy h=>j5 h,λ yy yy yy yy yy h=>j5 h,λ yy yy yy yy yy yy h=>j5 h,λ yy yy yy yy yy yy h=>j5 h⟩
 |n+1=>have I:=wN C n
  ⟨λ yy yy yy yy yy h q=>Gf I h q,λ yy yy yy yy yy h q=>BZ I h q,λ yy yy yy yy yy h q=>Ge I h q,λ yy yy yy yy yy yy h q=>Gg I h q,λ yy yy yy yy yy yy h q=>Gh I h q⟩
section
variable {C:ak} {ρ:ax} {σ:St} {x:X} {b:Bool} {v:V} {xs:List X} {vs:List V}
theorem pT (h:wJ 20 x ρ=some b):∀Q,Q b σ→fe C x ρ σ Q:=λ Q=>(wN C 20).ts x ρ σ b Q h
theorem pX (h:qc 20 x ρ=some v):∀Q,Q v σ→aH C x ρ σ Q:=λ Q=>(wN C 20).ev x ρ σ v Q h
theorem pS (h:pZ 20 xs ρ=some vs):∀Q,Q vs σ→aI C xs ρ σ Q:=λ Q=>(wN C 20).evs xs ρ σ vs Q h
end
section
variable {C:ak} {ρ:ax} {σ:St} {x ob:X} {v k:V} {xs:List X} {vs:List V} {r:Nat} {o:O} {n:String}
theorem wq (h:∀Q,Q (.ref r) σ→aH C ob ρ σ Q) (hk:∀Q,Q k σ→aH C x ρ σ Q) (g:σ.get r=some o) (e:zA o k=some v):∀Q,Q v σ→aH C (.sub ob x) ρ σ Q:=λ yy q=>h _ (hk _ (bR g e q))
theorem cX (h:∀Q,Q v σ→aH C x ρ σ Q) (hs:∀Q,Q vs σ→aI C xs ρ σ Q):∀Q,Q (v::vs) σ→aI C (x::xs) ρ σ Q:=λ yy q=>h _ (hs _ q)
end
theorem kK {α:Type} {guard:St→Prop} {f:V→ax→St→(Option V→ax→St→Prop)→Prop} {Q:Option V→ax→St→Prop} {σ:St} {g:α→V} (I:ax→Prop) (hg:guard σ) (q:∀ρ,I ρ→Q none ρ σ):
  ∀{l:List α} {ρ:ax},(∀a∈l,∀ρ,I ρ→∀K:Option V→ax→St→Prop,(∀ρ',I ρ'→K none ρ' σ)→f (g a) ρ σ K)→I ρ→c2 guard f (l.map g) ρ σ Q
 |[],ρ,h,i=>⟨hg,q ρ i⟩
 |a::l,ρ,h,i=>⟨hg,h a Ky ρ i _ λ yy i'=>kK I hg q (λ b hb=>h b (KK _ hb)) i'⟩
theorem fu {α:Type} {guard:St→Prop} {f:V→ax→St→(Option V→ax→St→Prop)→Prop} {Q:Option V→ax→St→Prop} {g:α→V} (I:List α→ax→St→Prop) (h0:∀ρ σ,I [] ρ σ→guard σ∧Q none ρ σ)
  (h1:∀a l ρ σ,I (a::l) ρ σ→guard σ∧∀K:Option V→ax→St→Prop,(∀ρ' σ',I l ρ' σ'→K none ρ' σ')→f (g a) ρ σ K):∀{l:List α} {ρ:ax} {σ:St},I l ρ σ→c2 guard f (l.map g) ρ σ Q
 |[],ρ,σ,i=>h0 ρ σ i
 |a::l,ρ,σ,i=>⟨(h1 a l ρ σ i).1,(h1 a l ρ σ i).2 _ λ yy yy i'=>fu I h0 h1 i'⟩
inductive aF where
 |prim (n:Nat)|cls (t:Nat) (a:List Nat)|arr (e:Nat)|var (i:Nat)
noncomputable def vi (n:Nat):V:=.int n
noncomputable def aF.v:aF→V
 | .prim n=>.tup [.int 1,.int n]
 | .cls t a=>.tup [.int 2,.int t,.tup (a.map vi)]
 | .arr e=>.tup [.int 4,.int e]
 | .var i=>.tup [.int 6,.int i]
noncomputable def tS (n:Nat):V→V
 | .tup l=>(l[n]?).getD .none
 |_=>.none
noncomputable def vV:V→String
 | .str s=>s
 |_=>""
noncomputable def lW:V→Nat
 | .int i=>i.toNat
 |_=>0
noncomputable def Ap:V→List V
 | .tup l=>l
 |_=>[]
theorem uf {α β:Type} {f:α→β} (hf:∀a b,f a=f b→a=b) {l r:List α} (h:l.map f=r.map f):l=r:=(List.map_inj_right hf).mp h
theorem aO {a b:Nat} (h:vi a=vi b):a=b:=congrArg lW h
noncomputable def aF.back (v:V):aF:=match lW (tS 0 v) with
 |1=>.prim (lW (tS 1 v))
 |2=>.cls (lW (tS 1 v)) ((Ap (tS 2 v)).map lW)
 |4=>.arr (lW (tS 1 v))
 |_=>.var (lW (tS 1 v))
theorem aF.back_v (a:aF):aF.back a.v=a:=by
 cases a with
 |cls t a=>exact congrArg (aF.cls t) ((List.map_map ..).trans (List.map_id _))
 |_=>rfl
theorem aF.v_inj {a b:aF} (h:a.v=b.v):a=b:=a.back_v.symm.trans ((congrArg aF.back h).trans b.back_v)
noncomputable def aF.lv:aF→Int
 | .prim _=>1| .cls _ _=>2| .var _=>1| .arr _=>3
noncomputable def ir:List aF→Nat→List (V×V)
 |[],_=>[]
 |r::l,i=>(r.v,vi i)::ir l (i+1)
theorem xP {r:aF} {l:List aF}:∀{i:Nat},r∉l→ae (ir l i) r.v=none:=by
 induction l with
 |nil=>exact λ yy=>rfl
 |cons a l ih=>exact λ {i} h=>show (if a.v=r.v then some (vi i) else ae (ir l (i+1)) r.v)=none from (if_neg λ e:a.v=r.v=>h (aF.v_inj e▸.head _)).trans (ih λ k=>h (.tail _ k))
theorem xO {r:aF} {l:List aF}:∀{i j:Nat},l.Nodup→l[j]? =some r→ae (ir l i) r.v=some (vi (i+j)):=by
 induction l with
 |nil=>exact λ yy h=>by cases List.getElem?_nil.symm.trans h
 |cons a l ih=>
  intro i j nd h
  have nd:=KE.mp nd
  show (if a.v=r.v then some (vi i) else ae (ir l (i+1)) r.v)=_
  cases j with
  |zero=>exact if_pos (congrArg aF.v (J4 h))
  |succ j=>exact (if_neg λ e:a.v=r.v=>nd.1 ((aF.v_inj e).symm▸Kh (i:=j) h)).trans ((ih nd.2 h).trans (congrArg (λ k=>some (vi k)) (Nat.succ_add_eq_add_succ i j)))
theorem ut {r:aF} {l:List aF}:∀{i:Nat},r∉l→bz (ir l i) r.v (vi (i+l.length))=ir (l++[r]) i:=by
 induction l with
 |nil=>exact λ yy=>rfl
 |cons a l ih=>
  exact λ {i} h=>show (if a.v=r.v then (a.v,vi (i+(l.length+1)))::ir l (i+1) else (a.v,vi i)::bz (ir l (i+1)) r.v (vi (i+(l.length+1))))=_ from
   (if_neg λ e:a.v=r.v=>h (aF.v_inj e▸.head _)).trans (congrArg ((a.v,vi i)::·) ((congrArg (λ k=>bz (ir l (i+1)) r.v (vi k)) (Nat.succ_add_eq_add_succ i l.length).symm).trans (ih λ k=>h (.tail _ k))))
theorem k5 {l:List aF}:∀{i:Nat},(ir l i).length=l.length:=by
 induction l with
 |nil=>exact rfl
 |cons a l ih=>exact congrArg Nat.succ ih
theorem oq {r:aF}:kk 2 r.v=true:=by
 have h:∀l:List Nat,eL 5 (l.map vi)=true:=λ l=>by
  induction l with
  |nil=>rfl
  |cons a l ih=>exact ih
 cases r with
 |cls t a=>exact (Bool.and_true _).trans (h a)
 |_=>rfl
structure eZ (σ:St) (p:Nat) (rows:List aF):Prop where
 inst:σ.get (p+1)=some (.inst aa "KindTable" [("rows",.ref (p+2)),("index",.ref (p+3)),("depths",.ref (p+4)),("weights",.ref (p+5)),("opens",.ref (p+6))])
 lt:p+7≤σ.len
 ex:∃dep wt op:List Int,σ.get (p+2)=some (.list aa (rows.map aF.v))∧σ.get (p+3)=some (.dict aa 2 (ir rows 0))∧σ.get (p+4)=some (.list aa (dep.map .int))∧σ.get (p+5)=some (.list aa (wt.map .int))∧σ.get (p+6)=some (.list aa (op.map .int))∧
  dep.length=rows.length∧wt.length=rows.length∧op.length=rows.length∧∀(i:Nat) r,rows[i]? =some r→∃x y z,dep[i]? =some x∧wt[i]? =some y∧op[i]? =some z∧x≤r.lv∧y≤r.lv
 prims:∀i,i<16→rows[i]? =some (.prim i)
 nd:rows.Nodup
theorem eZ.rw {σ:St} {p:Nat} {rows:List aF} (K:eZ σ p rows):σ.get (p+2)=some (.list aa (rows.map aF.v)):=K.ex.elim λ yy h=>h.elim λ yy h=>h.elim λ yy h=>h.1
theorem eZ.ix {σ:St} {p:Nat} {rows:List aF} (K:eZ σ p rows):σ.get (p+3)=some (.dict aa 2 (ir rows 0)):=K.ex.elim λ yy h=>h.elim λ yy h=>h.elim λ yy h=>h.2.1
theorem j6 {α β:Type} {f:α→β} {l:List α} {k:Nat} {a:α} (h:l[k]? =some a):¬(((l.map f).length:Nat):Int)≤(k:Int):=λ e=>
 absurd (Ka.mp h).1 (Nat.not_lt.mpr (Km f▸KP.mp e))
theorem Cj {k:Nat}:¬(k:Int)<0:=Int.not_lt.mpr (Kp k)
theorem ry {d p k:Nat} {rows:List aF} {r:aF} {σ:St} {Q:V→St→Prop} (K:eZ σ p rows) (h:rows[k]? =some r) (q:Q r.v σ):aw (d+1) (.m "KindTable" "row") [.ref (p+1),.int k] σ Q:=by
 refine go jY rfl ?_
 apply ay (by dsimp! [GG Cj,K.inst,K.rw,HP (j6 h)])
 exact bj (by dsimp! [K.inst,bp K.rw h]) q
noncomputable def aF.sort:aF→Nat
 | .prim _=>1| .cls _ _=>2| .arr _=>4| .var _=>6
noncomputable def aF.rlen:aF→Nat
 | .cls _ _=>3|_=>2
noncomputable def aF.inner:aF→List Nat
 | .cls _ a=>a| .arr e=>[e]|_=>[]
noncomputable def aF.level:aF→Nat
 | .cls _ _=>1| .arr _=>1|_=>0
noncomputable def pk (rows:List aF):aF→Prop
 | .prim _=>False
 | .cls t a=>64≤t∧(a=[]∨a=[7]∨a=[13])
 | .arr e=>∃r',rows[e]? =some r'∧(∀n,r'≠.prim n)∧(∀n,r'≠.arr n)
 | .var _=>True
theorem ef {d:Nat} {r:aF} {σ:St} {Q:V→St→Prop} (q:Q (.tup (r.inner.map vi)) σ):aw (d+1) (.g "inner_kinds") [r.v] σ Q:=by
 refine go mH rfl ?_
 cases r with
 |cls t a=>exact br (pX rfl) (aU (pT rfl) (bj (pX rfl) q))
 |arr e=>exact br (pX rfl) (ay (pT rfl) (aU (pT rfl) (bj (pX rfl) q)))
 |_=>exact br (pX rfl) (ay (pT rfl) (ay (pT rfl) (ay (pT rfl) (bj (pX rfl) q))))
theorem rx {d:Nat} {r:aF} {σ:St} {Q:V→St→Prop} (q:Q (vi r.level) σ):aw (d+1) (.g "row_level") [.int r.sort] σ Q:=by
 refine go rK rfl ?_
 cases r with
 |cls t a=>exact aU (pT rfl) (bj (pX rfl) q)
 |arr t=>exact aU (pT rfl) (bj (pX rfl) q)
 |_=>exact ay (pT rfl) (bj (pX rfl) q)
theorem oQ {d:Nat} {r:aF} {σ:St} {Q:V→St→Prop} (q:Q (.int r.rlen) σ):aw (d+1) (.g "row_length") [.int r.sort] σ Q:=by
 refine go oV rfl ?_
 cases r with
 |cls t a=>exact aU (pT rfl) (bj (pX rfl) q)
 |_=>exact ay (pT rfl) (ay (pT rfl) (bj (pX rfl) q))
theorem jA {d p k:Nat} {rows:List aF} {r:aF} {σ:St} {Q:V→St→Prop} (K:eZ σ p rows) (h:rows[k]? =some r) (h0:k≠0) (h14:k≠14) (q:Q (.bool true) σ):aw (d+2) (.g "may_stand") [.ref (p+1),.int k] σ Q:=by
 refine go rM rfl ?_
 apply ay (by dsimp! [vo (i0 h0),vo (λ e=>h14 (Int.ofNat.inj e))])
 apply jr (by dsimp!) K.inst k7 rfl
 refine ry K h ?_
 cases r with
 |_=>exact dO rfl (bj (pX rfl) q)
theorem rA {d p k:Nat} {rows:List aF} {r:aF} {σ:St} {Q:V→St→Prop} (K:eZ σ p rows) (h:rows[k]? =some r) (q:Q (.bool (match r with| .var _=>true|_=>false)) σ):aw (d+2) (.g "is_var") [.ref (p+1),.int k] σ Q:=by
 refine go yr rfl ?_
 apply jr (by dsimp!) K.inst k7 rfl
 refine ry K h ?_
 cases r with
 |_=>exact dO rfl (bj (pX rfl) q)
theorem oR {d p:Nat} {rows:List aF} {l:List Nat} {σ:St} {Q:V→St→Prop} (T:eZ σ p rows) (h:∀a∈l,(∃r,rows[a]? =some r)∧a≠0∧a≠14) (q:Q .none σ):aw (d+3) (.g "check_args") [.ref (p+1),.tup (l.map vi)] σ Q:=by
 refine go o8 rfl ?_
 apply dl (by dsimp! [mi])
 refine kK (λ ρ=>∃x,ρ=[some (.ref (p+1)),some (.tup (l.map vi)),x]) trivial (λ yy yy=>q) (λ a ha ρ i K k=>?_) ⟨none,rfl⟩
 obtain ⟨_,rfl⟩:=i
 obtain ⟨⟨r,hr⟩,h0,h14⟩:=h a ha
 exact ck (jA T hr h0 h14 (sg (k _ ⟨_,rfl⟩)))
theorem mq {d p t:Nat} {rows:List aF} {a:List Nat} {σ:St} {Q:V→St→Prop} (K:eZ σ p rows) (ht:64≤t) (h:∀x∈a,(∃r,rows[x]? =some r)∧x≠0∧x≠14) (q:Q .none σ):aw (d+4) (.g "check_named") [.ref (p+1),(aF.cls t a).v] σ Q:=by
 refine go mJ rfl ?_
 apply ay (by dsimp! [dO rfl,Iw (show ¬(t:Int)≤0 from λ e=>absurd (Nat.le_trans ht (Int.ofNat_le.mp e)) (by decide)),dO rfl,isin,GF (congrArg Option.isSome (mR ht))])
 apply yG (pS rfl)
 exact oR K h q
theorem xM {rows:List aF} {r:aF} (P:∀i,i<16→rows[i]? =some (.prim i)) (h:pk rows r):∀x∈r.inner,(∃r,rows[x]? =some r)∧x≠0∧x≠14:=by
 intro x hx
 cases r with
 |prim n=>exact h.elim
 |var n=>cases hx
 |cls t a=>
  have e:x=7∨x=13:=by
   rcases h.2 with e|e|e<;>replace hx:x∈a:=hx<;>rw [e] at hx
   ·cases hx
   ·exact .inl (Ko.mp hx)
   ·exact .inr (Ko.mp hx)
  rcases e with rfl|rfl
  ·exact ⟨⟨_,P 7 (by decide)⟩,by decide,by decide⟩
  ·exact ⟨⟨_,P 13 (by decide)⟩,by decide,by decide⟩
 |arr e=>
  cases Ko.mp hx
  refine h.elim λ r' h=>⟨⟨_,h.1⟩,λ e=>?_,λ e=>?_⟩
  ·subst e;exact h.2.1 0 (J4 (h.1.symm.trans (P 0 (by decide))))
  ·subst e;exact h.2.1 14 (J4 (h.1.symm.trans (P 14 (by decide))))
theorem jf {d p:Nat} {rows:List aF} {r:aF} {σ:St} {Q:V→St→Prop} (K:eZ σ p rows) (h:pk rows r) (q:Q .none σ):aw (d+5) (.g "check_kind_row") [.ref (p+1),r.v] σ Q:=by
 have hin:=xM K.prims h
 refine go ji rfl ?_
 refine ay (x:=.bool false _) (b:=[]) ?_ (br (v:=.int r.sort) ?_ (ck ?_))
 ·cases r with
  |prim n=>exact h.elim
  |_=>exact pT rfl
 ·cases r<;>exact pX rfl
 have L:∀Q:V→St→Prop,Q (.int r.rlen) σ→aH (aw (d+4)) (.len (.loc 1)) (d9 [some (.ref (p+1)),some r.v,none,none] 2 (.int r.sort)) σ Q:=by cases r<;>exact pX rfl
 refine L _ (oQ (EM rfl ?_))
 refine gU (ef (mi ?_))
 refine kK (λ ρ=>∃x,ρ=[some (.ref (p+1)),some r.v,some (.int r.sort),x]) trivial ?_ (λ a ha ρ i K' k=>?_) ⟨none,rfl⟩
 ·rintro ρ ⟨x,rfl⟩
  cases r with
  |prim n=>exact h.elim
  |var n=>exact ay (pT rfl) (aU (pT rfl) (ay (by dsimp! [dO rfl,GG Cj]) q))
  |cls t a=>exact aU (pT rfl) (yG (pS rfl) (mq K h.1 hin q))
  |arr e=>
   obtain ⟨⟨r',h1⟩,h2,h3⟩:=hin e Ky
   exact ay (pT rfl) (ay (pT rfl) (ay (pT rfl) (ay (pT rfl) (ck (dO rfl (jA K h1 h2 h3 (sg q)))))))
 ·obtain ⟨_,rfl⟩:=i
  obtain ⟨⟨r',hr⟩,_⟩:=hin a ha
  exact jr (λ Q q=>q) K.inst k7 rfl (ry K hr (k _ ⟨_,rfl⟩))
theorem u3 {rows:List aF} {r:aF} {dep wt op:List Int} (prims:∀i,i<16→rows[i]? =some (.prim i)) (h:pk rows r)
  (hd:∀(i:Nat) r,rows[i]? =some r→∃x y z,dep[i]? =some x∧wt[i]? =some y∧op[i]? =some z∧x≤r.lv∧y≤r.lv):
  r.inner.length≤1∧1≤r.lv∧r.lv≤3∧(∀a∈r.inner,∃x y z,dep[a]? =some x∧wt[a]? =some y∧op[a]? =some z∧x≤r.lv - 1∧y≤r.lv - 1):=by
 cases r with
 |prim n=>exact h.elim
 |var n=>simp [aF.inner,aF.lv]
 |cls t a=>
  obtain ⟨_,h⟩:=h
  refine ⟨by rcases h with rfl|rfl|rfl<;>simp [aF.inner],by simp [aF.lv],by simp [aF.lv],λ x hx=>?_⟩
  have e:x=7∨x=13:=by
   rcases h with rfl|rfl|rfl<;>simp [aF.inner] at hx<;>simp [hx]
  rcases e with rfl|rfl
  ·exact hd 7 _ (prims 7 (by decide))
  ·exact hd 13 _ (prims 13 (by decide))
 |arr e=>
  obtain ⟨r',h,h1,h2⟩:=h
  refine ⟨by simp [aF.inner],by simp [aF.lv],by simp [aF.lv],λ x hx=>?_⟩
  simp [aF.inner] at hx
  subst hx
  obtain ⟨x,y,z,q1,q2,q3,q4,q5⟩:=hd _ _ h
  have:r'.lv≤2:=by
   cases r' with
   |arr n=>exact absurd rfl (h2 n)
   |_=>simp [aF.lv]
  exact ⟨x,y,z,q1,q2,q3,KO q4 this,KO q5 this⟩
theorem bU {α:Type} {l:List α} {x:α} {i:Nat} {r:α} (h:(l++[x])[i]? =some r):l[i]? =some r∨(i=l.length∧r=x):=
 (Lu i l.length).elim (λ k=>.inl ((Lk k).symm.trans h)) λ k=>.inr (by
  have h:=(List.getElem?_append_right k).symm.trans h
  have e:i=l.length:=Nat.le_antisymm (Nat.le_of_sub_eq_zero (Nat.lt_one_iff.mp (Ka.mp h).1)) k
  rw [e,Nat.sub_self] at h
  exact ⟨e,(J4 h).symm⟩)
theorem dk {α:Type} {l r:List α} {i:Nat} {x:α} (e:l[i]? =some x):(l++r)[i]? =some x:=by
 rw [List.getElem?_append_left (List.getElem?_eq_some_iff.mp e).1];exact e
theorem FZ {σ:St} {p:Nat} {a b c d e:O} (h:p+7≤σ.len):let s:=((((σ.put (p+2) a).put (p+3) b).put (p+4) c).put (p+5) d).put (p+6) e
  s.get (p+2)=some a∧s.get (p+3)=some b∧s.get (p+4)=some c∧s.get (p+5)=some d∧s.get (p+6)=some e∧s.len=σ.len∧∀k,k<p+2∨p+7≤k→s.get k=σ.get k:=by
 have h2:p+2<σ.len:=JS (J0 (by decide) p) h
 have h3:p+3<σ.len:=JS (J0 (by decide) p) h
 have h4:p+4<σ.len:=JS (J0 (by decide) p) h
 have h5:p+5<σ.len:=JS (J0 (by decide) p) h
 have h6:p+6<σ.len:=JS (J0 (by decide) p) h
 refine ⟨(by exists aX h2),(by exists aX (px h3)),(by exists aX (px (px h4))),(by exists aX (px (px (px h5)))),aX (px (px (px (px h6)))),?_,λ k hk=>?_⟩
 ·exact aj.trans (aj.trans (aj.trans (aj.trans aj)))
 ·have ne:∀j,2≤j→j<7→k≠p+j:=λ j a b=>hk.elim (λ h=>J5 (JS h (JW a p))) λ h=>J8 (JS (J0 b p) h)
  exact (aR (ne 6 (by decide) (by decide))).trans ((aR (ne 5 (by decide) (by decide))).trans ((aR (ne 4 (by decide) (by decide))).trans ((aR (ne 3 (by decide) (by decide))).trans (aR (ne 2 (by decide) (by decide))))))
theorem nZ {d p:Nat} {rows:List aF} {r:aF} {σ:St} {Q:V→St→Prop} {x7:Option V} {dv wv ov:Int} (K:eZ σ p rows) (hb:rows.length<100000) (hm:r∉rows) (h1:dv≤r.lv) (h2:wv≤r.lv) (h3:r.lv≤3)
  (q:∀(k:Nat) rows' σ',eZ σ' p rows'→rows<+:rows'→rows'.length≤rows.length+1→rows'[k]? =some r→σ'.len=σ.len→(∀n,n<p+2∨p+7≤n→σ'.get n=σ.get n)→Q (.int k) σ'):
  ah (aw d) (bZ.drop 9) [some (.ref (p+1)),some r.v,some (.int (-1)),some (.int dv),some (.int wv),some (.int ov),some (vi r.level),x7,none] σ (λ o yy σ'=>Q (cp o) σ'):=by
 obtain ⟨dep,wt,op,g2,g3,g4,g5,g6,l1,l2,l3,hd⟩:=K.ex
 have hl:=K.lt
 have hL:rows.length<aN:=JY hb (by decide)
 apply ay (by dsimp! [G5 (show ¬(24:Int)<dv from Int.not_lt.mpr (Int.le_trans (Int.le_trans h1 h3) (by decide)))])
 apply ay (by dsimp! [G5 (show ¬(4096:Int)<wv from Int.not_lt.mpr (Int.le_trans (Int.le_trans h2 h3) (by decide)))])
 apply br (by dsimp! [K.inst,bH g2 (congrArg some (List.length_map _))])
 apply cJ (by dsimp! [K.inst]) g2 (by dsimp!) (by rw [List.length_map];exact hL)
 apply pN (by dsimp!) (by dsimp! [(aA (nf rfl) K.inst)]) (by dsimp!) (by exists g3) oq (by rw [k5];exact hL)
 apply cJ (by dsimp! [(aA (nf rfl) (aA (nf rfl) K.inst))]) (by exists g4) (by dsimp!) (by rw [List.length_map,l1];exact hL)
 apply cJ (by dsimp! [(aA (nf rfl) (aA (nf rfl) (aA (nf rfl) K.inst)))]) (by exists g5) (by dsimp!) (by rw [List.length_map,l2];exact hL)
 apply cJ (by dsimp! [(aA (nf rfl) (aA (nf rfl) (aA (nf rfl) (aA (nf rfl) K.inst))))]) (by exists g6) (by dsimp!) (by rw [List.length_map,l3];exact hL)
 apply bj (by dsimp!)
 obtain ⟨a2,a3,a4,a5,a6,al,af⟩:=FZ (σ:=σ) (p:=p) (a:=.list aa (rows.map aF.v++[r.v])) (b:=.dict aa 2 (bz (ir rows 0) r.v (.int rows.length))) (c:=.list aa (dep.map .int++[.int dv])) (d:=.list aa (wt.map .int++[.int wv])) (e:=.list aa (op.map .int++[.int ov])) hl
 refine q rows.length (rows++[r]) _ ⟨(af _ (.inl (Kc (p+1)))).trans K.inst,JT hl (J3 al.symm),⟨dep++[dv],wt++[wv],op++[ov],a2.trans ?_,a3.trans ?_,a4.trans ?_,a5.trans ?_,a6.trans ?_,?_,?_,?_,λ i r' hr'=>?_⟩,λ i hi=>?_,?_⟩ ⟨[r],rfl⟩ (J3 Ll) ?_ al af
 ·rw [List.map_append];rfl
 ·rw [←ut hm,Nat.zero_add];rfl
 ·rw [List.map_append];rfl
 ·rw [List.map_append];rfl
 ·rw [List.map_append];rfl
 ·rw [List.length_append,List.length_append,l1];rfl
 ·rw [List.length_append,List.length_append,l2];rfl
 ·rw [List.length_append,List.length_append,l3];rfl
 ·rcases bU hr' with h|⟨rfl,rfl⟩
  ·obtain ⟨x,y,z,q1,q2,q3,q4⟩:=hd i r' h
   exact ⟨x,y,z,dk q1,dk q2,dk q3,q4⟩
  ·exact ⟨dv,wv,ov,by rw [←l1];exact Kg,by rw [←l2];exact Kg,by rw [←l3];exact Kg,h1,h2⟩
 ·exact dk (K.prims i hi)
 ·refine Lb.mpr ⟨K.nd,(KE.mpr ⟨nofun,KL⟩),λ a ha b hb e=>hm ?_⟩
  cases Ko.mp hb;exact e▸ha
 ·exact Kg
theorem yk {d p:Nat} {rows:List aF} {r:aF} {σ:St} {Q:V→St→Prop} (K:eZ σ p rows) (hb:rows.length<100000) (hr:pk rows r)
  (q:∀(k:Nat) rows' σ',eZ σ' p rows'→rows<+:rows'→rows'.length≤rows.length+1→rows'[k]? =some r→σ'.len=σ.len→(∀n,n<p+2∨p+7≤n→σ'.get n=σ.get n)→Q (.int k) σ'):
  aw (d+6) (.m "KindTable" "put") [.ref (p+1),r.v] σ Q:=by
 refine go jZ rfl ?_
 by_cases hm:r∈rows
 ·obtain ⟨k,hk⟩:=KT hm
  apply br (by dsimp! [K.inst,vg K.ix,He K.ix oq (congrArg (Option.getD · _) (xO K.nd hk))])
  apply aU (by dsimp! [JO (Int.natCast_nonneg (0+k))])
  apply bj (by dsimp!)
  rw [Nat.zero_add]
  exact q k rows σ K (J1 _) (Kt _) hk rfl λ yy yy=>rfl
 obtain ⟨dep,wt,op,_,_,g4,g5,g6,_,_,_,hd⟩:=K.ex
 obtain ⟨hi1,hi2,hi3,hin⟩:=u3 K.prims hr hd
 apply br (by dsimp! [K.inst,vg K.ix,He K.ix oq (congrArg (Option.getD · _) (xP hm))])
 apply ay (pT rfl)
 apply yG (pS rfl)
 refine jf K hr ?_
 refine br (pX rfl) (br (pX rfl) (br (pX rfl) ?_))
 have key:∀z:Int,ah (aw (d+5)) (bZ.drop 7) [some (V.ref (p+1)),some r.v,some (V.int (-1)),some (V.int 1),some (V.int 1),some (V.int z),none,none,none] σ (λ o yy σ'=>Q (cp o) σ'):=by
  intro z
  have hsrt:∀Q:List V→St→Prop,Q [.int r.sort] σ→aI (aw (d+5)) [.sub (.loc 1) (.int 0)] [some (V.ref (p+1)),some r.v,some (V.int (-1)),some (V.int 1),some (V.int 1),some (V.int z),none,none,none] σ Q:=by cases r<;>exact pS rfl
  apply dj hsrt
  refine rx (gU (ef (mi ?_)))
  have hlev:(r.level:Int)≤1:=by cases r<;>first|exact (by decide:((0:Nat):Int)≤1)|exact (by decide:((1:Nat):Int)≤1)
  generalize r.inner=inn at hi1 hin
  match inn,hi1,hin with
  |[],_,_=>exact ⟨trivial,nZ K hb hm hi2 hi2 hi3 q⟩
  |[a],_,hin=>
   obtain ⟨x,y,zz,q1,q2,q3,q4,q5⟩:=hin a Ky
   have K1:=K
   refine ⟨trivial,?_⟩
   have st:∃dv:Int,dv≤r.lv∧∀l K,ah (aw (d+5)) l [some (V.ref (p+1)),some r.v,some (V.int (-1)),some (V.int dv),some (V.int 1),some (V.int z),some (vi r.level),some (vi a),none] σ K→
     ah (aw (d+5)) (.ite (.cmp .gt (.bin .add (.sub (.attr (.loc 0) "depths") (.loc 7)) (.loc 6)) (.loc 3)) [.set (.loc 3) (.bin .add (.sub (.attr (.loc 0) "depths") (.loc 7)) (.loc 6))] []::l) [some (V.ref (p+1)),some r.v,some (V.int (-1)),some (V.int 1),some (V.int 1),some (V.int z),some (vi r.level),some (vi a),none] σ K:=
    (Int.lt_or_le 1 (x+r.level)).elim (λ hz=>⟨_,KO (Int.add_le_add_left hlev x) (Int.add_le_of_le_sub_right q4),λ l K q=>by
     apply aU (by dsimp! [K1.inst,bp g4 q1,Iy hz])
     apply br (by dsimp! [K1.inst,bp g4 q1])
     exact q⟩) λ hz=>⟨1,hi2,λ l K q=>by
     apply ay (by dsimp! [K1.inst,bp g4 q1,G5 (Int.not_lt.mpr hz)])
     exact q⟩
   refine st.elim λ dv h=>h.2 _ _ (cj K.inst rfl (bp g5 q2 ?_))
   have e1:1+y≤r.lv:=Int.add_comm y 1▸Int.add_le_of_le_sub_right q5
   by_cases hz:zz=1
   ·exact aU (by dsimp! [K.inst,bp g6 q3,EN hz]) ⟨trivial,nZ K hb hm h.1 e1 hi3 q⟩
   ·exact ay (by dsimp! [K.inst,bp g6 q3,vo hz]) ⟨trivial,nZ K hb hm h.1 e1 hi3 q⟩
 by_cases hz:r.sort=6
 ·refine aU (b:=[]) ?_ (br (pX rfl) (key 1))
  cases r with
  |var i=>exact pT rfl
  |_=>cases hz
 ·refine ay (b:=[]) ?_ (key 0)
  cases r with
  |var i=>exact absurd rfl hz
  |_=>exact pT rfl
set_option genInjectivity true in
inductive K where
 |none|prim (n:Nat)|var|cls (b:Bool) (a:Nat)|lib|arr (k:K)
structure bJ where
 a:Nat
 b:Nat
 l:Nat
noncomputable def bJ.t (o:bJ) (b:Bool):Nat:=if b then o.b else o.a
noncomputable def c4 (rows:List aF) (o:bJ):K→Int→Prop
 | .none,k=>k=-1
 | .prim n,k=>k=n∧n<16
 | .var,k=>∃j:Nat,k=j∧rows[j]? =some (.var 0)
 | .cls b a,k=>∃j:Nat,k=j∧rows[j]? =some (.cls (o.t b) [a])
 | .lib,k=>∃j:Nat,k=j∧rows[j]? =some (.cls o.l [])
 | .arr t,k=>∃j e:Nat,k=j∧rows[j]? =some (.arr e)∧c4 rows o t e
theorem ba {α:Type} {l r:List α} (h:l<+:r) {i:Nat} {x:α} (e:l[i]? =some x):r[i]? =some x:=by
 obtain ⟨t,rfl⟩:=h
 rw [List.getElem?_append_left (List.getElem?_eq_some_iff.mp e).1];exact e
theorem c4.mono {rows rows':List aF} (h:rows<+:rows') {o:bJ} {t:K}:∀{k:Int},c4 rows o t k→c4 rows' o t k:=by
 have one:∀{k:Int} {r:aF},(∃j:Nat,k=j∧rows[j]? =some r)→∃j:Nat,k=j∧rows'[j]? =some r:=λ h'=>h'.imp λ j h'=>h'.imp_right (ba h)
 induction t with
 |none=>exact id
 |prim n=>exact id
 |var=>exact one
 |cls b a=>exact one
 |lib=>exact one
 |arr t ih=>exact λ h'=>h'.imp λ j h'=>h'.imp λ e h'=>h'.imp_right (And.imp (ba h) ih)
theorem cw {α:Type} {l:List α} (nd:l.Nodup) {i j:Nat} {x:α} (h:l[i]? =some x) (h':l[j]? =some x):i=j:=
 (List.getElem?_inj (Ka.mp h).1 nd).mp (h.trans h'.symm)
theorem c4.fn {σ:St} {p:Nat} {rows:List aF} (T:eZ σ p rows) {o:bJ} {t:K}:∀{k k':Int},c4 rows o t k→c4 rows o t k'→k=k':=by
 have one:∀{k k':Int} {r:aF},(∃j:Nat,k=j∧rows[j]? =some r)→(∃j:Nat,k'=j∧rows[j]? =some r)→k=k':=λ h h'=>h.elim λ j h=>h'.elim λ j' h'=>h.1.trans ((congrArg Int.ofNat (cw T.nd h.2 h'.2)).trans h'.1.symm)
 induction t with
 |none=>exact λ h h'=>h.trans h'.symm
 |prim n=>exact λ h h'=>h.1.trans h'.1.symm
 |var=>exact one
 |cls b a=>exact one
 |lib=>exact one
 |arr t ih=>exact λ h h'=>h.elim λ j h=>h.elim λ e h=>h'.elim λ j' h'=>h'.elim λ e' h'=>one (r:=.arr e) ⟨j,h.1,h.2.1⟩ ⟨j',h'.1,K5 (ih h'.2.2 h.2.2)▸h'.2.1⟩
structure bJ.Ok (o:bJ):Prop where
 la:64≤o.a
 lb:64≤o.b
 ll:64≤o.l
 ab:o.a<o.b
 al:o.l<o.a
noncomputable def aF.kd (o:bJ) (f:Nat→K):aF→K
 | .prim n=>.prim n
 | .cls t l=>l.casesOn .lib λ a yy=>.cls (t==o.b) a
 | .arr e=>f e
 | .var _=>.var
noncomputable def kd (rows:List aF) (o:bJ):Nat→Int→K
 |0,_=>.none
 |n+1,k=>k.casesOn (λ j=>(rows[j]?).elim .none (aF.kd o λ e=>.arr (kd rows o n e))) λ yy=>.none
theorem rj {rows:List aF} {o:bJ} {n j:Nat} {k:Int} {r:aF} (e:k=j) (h:rows[j]? =some r):kd rows o (n+1) k=aF.kd o (λ e=>.arr (kd rows o n e)) r:=
 (congrArg (kd rows o (n+1)) e).trans (congrArg (λ x=>Option.elim x K.none _) h)
noncomputable def K.dp:K→Nat
 | .arr k=>k.dp+1
 |_=>0
theorem c4.dec {σ:St} {p:Nat} {rows:List aF} (T:eZ σ p rows) {o:bJ} (O:o.Ok) (t:K):∀{k:Int},c4 rows o t k→∀{n:Nat},t.dp≤n→kd rows o (n+1) k=t:=by
 induction t with
 |none=>exact λ h yy yy=>congrArg (kd rows o _) h
 |prim m=>exact λ h yy yy=>rj h.1 (T.prims m h.2)
 |var=>exact λ h yy yy=>h.elim λ j h=>rj h.1 h.2
 |cls b a=>exact λ h yy yy=>h.elim λ j h=>(rj h.1 h.2).trans (congrArg (K.cls · a) (by cases b;exact K3 (J5 O.ab);exact KZ rfl))
 |lib=>exact λ h yy yy=>h.elim λ j h=>rj h.1 h.2
 |arr t ih=>exact λ h n hn=>h.elim λ j h=>h.elim λ e h=>(rj h.1 h.2.1).trans (by cases n with|zero=>cases hn|succ n=>exact congrArg K.arr (ih h.2.2 (K0 hn)))
theorem c4.inj {σ:St} {p:Nat} {rows:List aF} (T:eZ σ p rows) {o:bJ} (O:o.Ok) {t t':K} {k:Int} (h:c4 rows o t k) (h':c4 rows o t' k):t=t':=
 (h.dec T O t (JU _ _)).symm.trans (h'.dec T O t' (Nat.le_add_left _ _))
noncomputable def bB:List String:=["i","u","s","Ai","As","Bi","Bs","L","T","aT","aAi","o","v"]
noncomputable def aT (s:String):K:=if s="i" then .prim 7 else if s="u" then .prim 4 else if s="s" then .prim 13 else if s="Ai" then .cls false 7 else if s="As" then .cls false 13 else
 if s="Bi" then .cls true 7 else if s="Bs" then .cls true 13 else if s="L" then .lib else if s="T" then .var else if s="aT" then .arr .var else if s="aAi" then .arr (.cls false 7) else if s="o" then .prim 12 else .prim 0
noncomputable def K.cd:K→List Nat
 | .none=>[]
 | .prim n=>[n+5]
 | .var=>[1]
 | .lib=>[2]
 | .cls b a=>[b.toNat+3,a]
 | .arr k=>0::k.cd
noncomputable def K.dc:List Nat→K
 |[]=>.none
 |0::l=>.arr (K.dc l)
 |1::_=>.var
 |2::_=>.lib
 |3::l=>.cls false (l.headD 0)
 |4::l=>.cls true (l.headD 0)
 |(n+5)::_=>.prim n
theorem K.dc_cd (k:K):K.dc k.cd=k:=by
 induction k with
 |cls b a=>cases b;exact rfl;exact rfl
 |arr k ih=>exact congrArg K.arr ih
 |_=>exact rfl
noncomputable instance:DecidableEq K:=λ a b=>decidable_of_iff (a.cd=b.cd) ⟨λ h=>(K.dc_cd a).symm.trans ((congrArg K.dc h).trans (K.dc_cd b)),λ h=>h▸rfl⟩
theorem ga:∀s∈bB,∀t∈bB,aT s=aT t→s=t:=by decide
theorem eR {d p t:Nat} {a:List Nat} {rows:List aF} {σ:St} {Q:V→St→Prop} (T:eZ σ p rows) (hb:rows.length<100000) (ht:64≤t) (ha:a=[]∨a=[7]∨a=[13])
  (q:∀(k:Nat) rows' σ',eZ σ' p rows'→rows<+:rows'→rows'.length≤rows.length+1→rows'[k]? =some (.cls t a)→σ'.len=σ.len→(∀n,n<p+2∨p+7≤n→σ'.get n=σ.get n)→Q (.int k) σ'):
  aw (d+7) (.g "class_kind") [.ref (p+1),.int t,.tup (a.map vi)] σ Q:=by
 refine go o7 rfl ?_
 apply ay (by dsimp! [isin,GF (congrArg Option.isSome (mR ht))])
 exact BQ (pX rfl) T.inst sS rfl (pS rfl) (yk T hb (r:=.cls t a) ⟨ht,ha⟩ q)
theorem iB {d p e:Nat} {r:aF} {rows:List aF} {σ:St} {Q:V→St→Prop} (T:eZ σ p rows) (hb:rows.length<100000) (h:rows[e]? =some r) (h1:∀n,r≠.prim n) (h2:∀n,r≠.arr n)
  (q:∀(k:Nat) rows' σ',eZ σ' p rows'→rows<+:rows'→rows'.length≤rows.length+1→rows'[k]? =some (.arr e)→σ'.len=σ.len→(∀n,n<p+2∨p+7≤n→σ'.get n=σ.get n)→Q (.int k) σ'):
  aw (d+7) (.g "array_kind") [.ref (p+1),.int e] σ Q:=
 go pe rfl (BQ (pX rfl) T.inst sS rfl (pS rfl) (yk T hb (r:=.arr e) ⟨r,h,h1,h2⟩ q))
theorem lE {d p i:Nat} {rows:List aF} {σ:St} {Q:V→St→Prop} (T:eZ σ p rows) (hb:rows.length<100000)
  (q:∀(k:Nat) rows' σ',eZ σ' p rows'→rows<+:rows'→rows'.length≤rows.length+1→rows'[k]? =some (.var i)→σ'.len=σ.len→(∀n,n<p+2∨p+7≤n→σ'.get n=σ.get n)→Q (.int k) σ'):
  aw (d+7) (.g "var_kind") [.ref (p+1),.int i] σ Q:=
 go tx rfl (BQ (pX rfl) T.inst sS rfl (pS rfl) (yk T hb (r:=.var i) trivial q))
theorem eZ.frame {σ σ':St} {p:Nat} {rows:List aF} (T:eZ σ p rows) (hl:σ.len≤σ'.len) (h:∀n,p+1≤n→n<p+7→σ'.get n=σ.get n):eZ σ' p rows:=by
 have e:∀i,1≤i→i<7→σ'.get (p+i)=σ.get (p+i):=λ i a b=>h _ (JW a p) (J0 b p)
 refine ⟨(e 1 (by decide) (by decide)).trans T.inst,JT T.lt hl,?_,T.prims,T.nd⟩
 rw [e 2 (by decide) (by decide),e 3 (by decide) (by decide),e 4 (by decide) (by decide),e 5 (by decide) (by decide),e 6 (by decide) (by decide)]
 exact T.ex
section
variable {d p w:Nat} {o:bJ} {rows:List aF} {σ:St} {Q:V→St→Prop} (T:eZ σ p rows) (O:o.Ok) (hb:rows.length+2<100000) (hw:σ.get w=some (.list aa [vi o.a,vi o.b,vi o.l]))
noncomputable abbrev r4 (σ:St) (p:Nat) (rows:List aF) (o:bJ) (n:Nat) (t:String) (Q:V→St→Prop):Prop:=∀(k:Nat) rows' σ',eZ σ' p rows'→rows<+:rows'→rows'.length≤rows.length+n→c4 rows' o (aT t) k→σ.len≤σ'.len→(∀n,n<σ.len→n<p+2∨p+7≤n→σ'.get n=σ.get n)→Q (.int k) σ'
include T O hb in
theorem io {i:Nat} {b:Bool} {t:String} (hi:i=7∨i=13) (ht:aT t=.cls b i) (q:r4 σ p rows o 1 t Q):aw (d+7) (.g "class_kind") [.ref (p+1),.int (o.t b:Nat),.tup [vi i]] σ Q:=by
 refine eR (a:=[i]) T (JV (JU _ _) hb) ?_ (hi.elim (λ e=>.inr (.inl (e▸rfl))) λ e=>.inr (.inr (e▸rfl))) λ k rows' σ' h1 h2 h3 h4 h5 h6=>?_
 ·cases b
  ·exact O.la
  ·exact O.lb
 ·exact q k rows' σ' h1 h2 h3 (ht▸⟨k,rfl,h4⟩) (J3 h5.symm) λ n yy hn=>h6 n hn
include T in
theorem vc {n:Nat} {t:String} {ob:Mine.O} (hn:n<16) (ht:aT t=.prim n) (q:r4 σ p rows o 1 t Q):Q (.int n) (σ.new ob):=
 q n rows _ (T.frame (JT (Kt _) (J3 aD.symm)) λ k yy h=>aP (JS h T.lt)) (J1 _) (Kt _) (ht▸⟨rfl,hn⟩) (JT (Kt _) (J3 aD.symm)) λ k h yy=>aP h
include T O hb hw in
theorem jB {t:String} (ht:t∈bB) (ha:dS t 0≠some "a") (q:r4 σ p rows o 1 t Q):aw (d+8) (.g "_law_kind") [.ref (p+1),.ref w,.str t] σ Q:=by
 have hb':rows.length<100000:=JV (JU _ _) hb
 refine go lN rfl ?_
 have fin:∀{n:Nat} {t:String},aT t=.prim n→n<16→ae ((["v","u","i","o","s"].map V.str).zip [.int 0,.int 4,.int 7,.int 12,.int 13]) (.str t)=some (.int n)→r4 σ p rows o 1 t Q→
   ah (aw (d+7)) [.ret (.sub (.dict 1 ["v","u","i","o","s"] [.int 0,.int 4,.int 7,.int 12,.int 13]) (.loc 2))] [some (.ref (p+1)),some (.ref w),some (.str t)] σ λ o yy σ'=>Q (cp o) σ':=λ ht hn e q=>by
  exact bR (r:=σ.len) (o:=.dict aa 1 _) be e (vc T hn ht q)
 simp only [bB,List.mem_cons,List.not_mem_nil,or_false] at ht
 rcases ht with rfl|rfl|rfl|rfl|rfl|rfl|rfl|rfl|rfl|rfl|rfl|rfl|rfl
 case inr.inr.inr.inr.inr.inr.inr.inr.inr.inl=>exact absurd rfl ha
 case inr.inr.inr.inr.inr.inr.inr.inr.inr.inr.inl=>exact absurd rfl ha
 case inr.inr.inr.inl=>exact ay (pT rfl) (aU (pT rfl) (nX (cX (pX rfl) (cX (wq (pX rfl) (pX rfl) hw rfl) (pS rfl))) (io T O hb (b:=false) (.inl rfl) rfl q)))
 case inr.inr.inr.inr.inl=>exact ay (pT rfl) (aU (pT rfl) (nX (cX (pX rfl) (cX (wq (pX rfl) (pX rfl) hw rfl) (pS rfl))) (io T O hb (b:=false) (.inr rfl) rfl q)))
 case inr.inr.inr.inr.inr.inl=>exact ay (pT rfl) (aU (pT rfl) (nX (cX (pX rfl) (cX (wq (pX rfl) (pX rfl) hw rfl) (pS rfl))) (io T O hb (b:=true) (.inl rfl) rfl q)))
 case inr.inr.inr.inr.inr.inr.inl=>exact ay (pT rfl) (aU (pT rfl) (nX (cX (pX rfl) (cX (wq (pX rfl) (pX rfl) hw rfl) (pS rfl))) (io T O hb (b:=true) (.inr rfl) rfl q)))
 case inr.inr.inr.inr.inr.inr.inr.inl=>
  refine ay (pT rfl) (ay (pT rfl) (aU (pT rfl) (nX (cX (pX rfl) (cX (wq (pX rfl) (pX rfl) hw rfl) (pS rfl))) ?_)))
  exact eR (a:=[]) T hb' O.ll (.inl rfl) λ k rows' σ' h1 h2 h3 h4 h5 h6=>q k rows' σ' h1 h2 h3 ⟨k,rfl,h4⟩ (J3 h5.symm) λ n yy hn=>h6 n hn
 case inr.inr.inr.inr.inr.inr.inr.inr.inl=>
  refine ay (pT rfl) (ay (pT rfl) (ay (pT rfl) (aU (pT rfl) (nX (pS rfl) ?_))))
  exact lE (i:=0) T hb' λ k rows' σ' h1 h2 h3 h4 h5 h6=>q k rows' σ' h1 h2 h3 ⟨k,rfl,h4⟩ (J3 h5.symm) λ n yy hn=>h6 n hn
 all_goals exact ay (pT rfl) (ay (pT rfl) (ay (pT rfl) (ay (pT rfl) (fin rfl (by decide) rfl q))))
include T O hb hw in
theorem tj {t:String} (ht:t∈bB) (q:r4 σ p rows o 2 t Q):aw (d+9) (.g "_law_kind") [.ref (p+1),.ref w,.str t] σ Q:=by
 by_cases ha:dS t 0=some "a"
 ·have arr:∀{t':String},t'∈bB→dS t' 0≠some "a"→aT t=.arr (aT t')→(∀{rows:List aF} {k:Nat},c4 rows o (aT t') k→∃r,rows[k]? =some r∧(∀n,r≠.prim n)∧∀n,r≠.arr n)→
    aw (d+8) (.g "_law_kind") [.ref (p+1),.ref w,.str t'] σ λ v σ1=>aw (d+8) (.g "array_kind") [.ref (p+1),v] σ1 Q:=λ m n e ex=>by
   refine jB T O hb hw m n λ k rows' σ' h1 h2 h3 h4 h5 h6=>?_
   obtain ⟨r,g1,g2,g3⟩:=ex h4
   refine iB h1 (JV h3 (KU hb)) g1 g2 g3 λ k' rows'' σ'' f1 f2 f3 f4 f5 f6=>?_
   exact q k' rows'' σ'' f1 (h2.trans f2) (JT f3 (Kj h3)) (e▸⟨k',k,rfl,f4,h4.mono f2⟩) (f5▸h5) λ n h7 h8=>(f6 n h8).trans (h6 n h7 h8)
  refine go lN rfl ?_
  simp only [bB,List.mem_cons,List.not_mem_nil,or_false] at ht
  rcases ht with rfl|rfl|rfl|rfl|rfl|rfl|rfl|rfl|rfl|rfl|rfl|rfl|rfl
  case inr.inr.inr.inr.inr.inr.inr.inr.inr.inl=>
   refine aU (pT rfl) ?_
   apply FL (by decide) (by decide) (by decide)
   exact arr (t':="T") (by decide) (by decide) rfl λ ⟨j,e,h⟩=>⟨.var 0,K5 e▸h,nofun,nofun⟩
  case inr.inr.inr.inr.inr.inr.inr.inr.inr.inr.inl=>
   refine aU (pT rfl) ?_
   apply FL (by decide) (by decide) (by decide)
   exact arr (t':="Ai") (by decide) (by decide) rfl λ ⟨j,e,h⟩=>⟨.cls (o.t false) [7],K5 e▸h,nofun,nofun⟩
  all_goals exact absurd ha (by decide)
 ·exact jB (d:=d+1) T O hb hw ht ha λ k rows' σ' h1 h2 h3 h4 h5 h6=>q k rows' σ' h1 h2 (KQ h3) h4 h5 h6
end
theorem eO {k v:V} {l:List (V×V)} {x:V}:ae ((k,v)::l) x=if k=x then some v else ae l x:=rfl
theorem vq {x:V}:ae [] x=none:=rfl
theorem vp {k v:V} {l:List (V×V)} {x y:V}:bz ((k,v)::l) x y=if k=x then (k,y)::l else (k,v)::bz l x y:=rfl
theorem xZ {x y:V}:bz [] x y=[(x,y)]:=rfl
theorem eN:∀{l:List (V×V)} {x y z:V},ae (bz l x y) z=if z=x then some y else ae l z
 |[],x,y,z=>by
  simp only [xZ,eO,vq]
  by_cases h:z=x
  ·rw [if_pos h,if_pos h.symm]
  ·rw [if_neg h,if_neg (λ e=>h e.symm)]
 |(k,v)::l,x,y,z=>by
  simp only [vp,eO]
  by_cases h:k=x
  ·rw [if_pos h,eO]
   by_cases h2:z=x
   ·rw [if_pos (h.trans h2.symm),if_pos h2]
   ·rw [if_neg (λ e=>h2 (e.symm.trans h)),if_neg h2,if_neg (λ e=>h2 (e.symm.trans h))]
  ·rw [if_neg h,eO,eN]
   by_cases h2:z=x
   ·rw [if_pos h2,if_neg (λ e=>h (e.trans h2)),if_pos h2]
   ·rw [if_neg h2,if_neg h2]
theorem ju {l:List (V×V)} {x y:V}:(bz l x y).length≤l.length+1:=by
 induction l with
 |nil=>exact Kd _
 |cons kv l ih=>
  cases kv with|mk k v=>
  show (if k=x then (k,y)::l else (k,v)::bz l x y).length≤_
  exact iteInduction (motive:=λ m:List (V×V)=>m.length≤l.length+2) (λ yy=>Kt _) λ yy=>Kj ih
theorem sO {s:String}:kk 1 (.str s)=true:=by simp [kk]
structure W (σ:St) (w m:Nat):Prop where
 ex:∃(nr:Nat) (nums:List Nat) (at_:Nat),σ.get w=some (.dict aa 1 [(.str "nums",.ref nr),(.str "at",vi at_)])∧σ.get nr=some (.list aa (nums.map vi))∧nr<w∧1≤nums.length∧nums.length≤1000∧at_≤m∧w<σ.len
theorem W.el {σ:St} {w m:Nat} (h:W σ w m) {P:Prop} (k:∀(nr:Nat) (nums:List Nat) (at_:Nat),σ.get w=some (.dict aa 1 [(.str "nums",.ref nr),(.str "at",vi at_)])→σ.get nr=some (.list aa (nums.map vi))→nr<w→1≤nums.length→nums.length≤1000→at_≤m→w<σ.len→P):P:=by
 obtain ⟨nr,nums,a,h1,h2,h3,h4,h5,h6,h7⟩:=h.ex
 exact k nr nums a h1 h2 h3 h4 h5 h6 h7
theorem W.frame {σ σ':St} {w m:Nat} (h:W σ w m) (hl:σ.len≤σ'.len) (hf:∀n,n≤w→σ'.get n=σ.get n):W σ' w m:=
 h.el λ nr nums a h1 h2 h3 h4 h5 h6 h7=>⟨nr,nums,a,(hf _ (Kd _)).trans h1,(hf _ (Kb h3)).trans h2,h3,h4,h5,h6,JS h7 hl⟩
theorem W.mono {σ:St} {w m m':Nat} (h:W σ w m) (hm:m≤m'):W σ w m':=
 h.el λ nr nums a h1 h2 h3 h4 h5 h6 h7=>⟨nr,nums,a,h1,h2,h3,h4,h5,JT h6 hm,h7⟩
theorem W.lt {σ:St} {w m:Nat} (h:W σ w m):w<σ.len:=h.el λ yy yy yy yy yy yy yy yy yy h=>h
theorem Ex {d w m n:Nat} {σ:St} {Q:V→St→Prop} (h:W σ w m) (hn:0<n) (hm:m<100000)
  (q:∀(r:Nat),r<n→∀σ',W σ' w (m+1)→σ'.len=σ.len→(∀k,k≠w→σ'.get k=σ.get k)→Q (.int r) σ'):aw (d+1) (.g "_law_draw") [.ref w,.int n] σ Q:=by
 refine h.el λ nr nums a h1 h2 h3 h4 h5 h6 h7=>?_
 have e0:nums[0]? =some nums[0]:=JZ h4
 have hk:a % nums.length<nums.length:=K2 _ h4
 have e1:nums[a % nums.length]? =some nums[a % nums.length]:=JZ hk
 refine go tI rfl ?_
 apply br (by dsimp! [h1])
 apply br (by dsimp! [h1])
 apply pN (by dsimp!) (by dsimp!) (by dsimp!) h1 rfl (show 2<aN by decide)
 apply br (by dsimp! [bH (aA (Nat.ne_of_lt h3) h2) (congrArg some (List.length_map _))])
 have hp:(0:Int)<nums.length:=Lm.mpr h4
 have hd:a / nums.length≤a:=Nat.div_le_self _ _
 have b3:(a:Int).natAbs<2 ^ 60:=JV h6 (JY hm (by decide))
 have b1:((a:Int) / (nums.length:Int)).natAbs<2 ^ 60:=by rw [←Int.natCast_ediv,Int.natAbs_natCast];exact JV hd b3
 have b2:((nums[0]:Int) % 7+3*(a:Int)).natAbs<2 ^ 60:=show nums[0] % 7+3*a<2 ^ 60 from JS (Nat.add_lt_add (K2 _ (show 0<7 by decide)) (Nat.mul_lt_mul_of_pos_left (JV h6 hm) (show 0<3 by decide))) (by decide)
 apply bj (by dsimp! [And.intro hp,bp (aA (Nat.ne_of_lt h3) h2) e1,And.intro hp,And.intro (show (nums.length:Int)<1000000000 from Int.ofNat_lt.mpr (Nat.lt_of_le_of_lt h5 (by decide))),bp (k:=0) (aA (Nat.ne_of_lt h3) h2) e0,And.intro (show (0:Int)<7 by decide),And.intro (show (3:Int).natAbs<2 ^ 60 by decide),And.intro b3,And.intro b1,And.intro b2,And.intro (show (0:Int)<(n:Int) from Int.ofNat_lt.mpr hn)])
 have e4:(((nums[a % nums.length]+(a / nums.length)*(nums[0] % 7+3*a)) % n:Nat):Int)=((nums[a % nums.length]:Int)+((a / nums.length:Nat):Int)*((nums[0]:Int) % (7:Int)+(3:Int)*(a:Int))) % (n:Int):=by
  rw [Int.natCast_emod,Int.natCast_add,Int.natCast_mul,Int.natCast_add,Int.natCast_emod,Int.natCast_mul];rfl
 refine e4▸q _ (K2 _ hn) _ ⟨nr,nums,a+1,aX h7,aA (J5 h3) h2,h3,h4,h5,Kj h6,px h7⟩ aj λ k hk=>aR hk
theorem zH {guard:St→Prop} {f:V→ax→St→(Option V→ax→St→Prop)→Prop} {Q:Option V→ax→St→Prop} (items:List V):∀(I:Nat→ax→St→Prop)
  (_:∀ρ σ,I items.length ρ σ→guard σ∧Q none ρ σ)
  (_:∀i v,items[i]? =some v→∀ρ σ (L:Option V→ax→St→Prop),I i ρ σ→(∀ρ' σ',I (i+1) ρ' σ'→L none ρ' σ')→(∀y ρ' σ',Q (some y) ρ' σ'→L (some y) ρ' σ')→guard σ∧f v ρ σ L)
  (ρ:ax) (σ:St),I 0 ρ σ→c2 guard f items ρ σ Q:=by
 induction items with
 |nil=>exact λ I h0 yy=>h0
 |cons v rest ih=>exact λ I h0 h1 ρ σ h=>h1 0 v rfl ρ σ _ h (λ ρ' σ' h'=>ih (λ i=>I (i+1)) h0 (λ i w hw=>h1 (i+1) w hw) ρ' σ' h') λ yy yy yy q=>q
theorem su {n:Nat}:(bG 0 n).length=n:=(Km _).trans List.length_range
theorem gV {n i:Nat} {v:V} (h:(bG 0 n)[i]? =some v):v=.int i∧i<n:=by
 refine (Option.map_eq_some_iff.mp ((List.getElem?_map ..).symm.trans h)).elim λ a h=>(Ka.mp h.1).elim λ hi e=>?_
 rw [List.getElem_range] at e
 exact ⟨by rw [←h.2,←e];exact congrArg V.int (Int.zero_add _),JS hi (J3 List.length_range)⟩
structure Fr where
 nm:String
 tm:String
structure Mr where
 nm:String
 g:Nat
 s:Nat
 ret:String
 ps:List String
noncomputable def Fr.v (r:Fr):V:=.tup [.str r.nm,.str r.tm]
noncomputable def Mr.v (r:Mr):V:=.tup [.str r.nm,vi r.g,vi r.s,.str r.ret,.tup (r.ps.map V.str)]
theorem Fr.v_inj {a b:Fr} (h:a.v=b.v):a=b:=congrArg (λ v=>(⟨vV (tS 0 v),vV (tS 1 v)⟩:Fr)) h
noncomputable def Mr.back (v:V):Mr:=⟨vV (tS 0 v),lW (tS 1 v),lW (tS 2 v),vV (tS 3 v),(Ap (tS 4 v)).map vV⟩
theorem Mr.back_v (a:Mr):Mr.back a.v=a:=congrArg (Mr.mk a.nm a.g a.s a.ret) ((List.map_map ..).trans (List.map_id _))
theorem Mr.v_inj {a b:Mr} (h:a.v=b.v):a=b:=a.back_v.symm.trans ((congrArg Mr.back h).trans b.back_v)
noncomputable def Fr.ok (r:Fr):Prop:=r.tm∈bB
noncomputable def Mr.ok (r:Mr):Prop:=r.nm≠"Finalize"∧r.g≤1∧r.s≤1∧r.ret∈bB∧(∀p∈r.ps,p∈bB)∧r.ps.length≤2
noncomputable def js:List String:=["i","u","s","Ai","As","Bi","L","T","aT","aAi","o"]
noncomputable def qX:List (Nat×Nat×String×List String):=[(0,0,"v",[]),(0,1,"v",[]),(0,0,"i",[]),(1,0,"v",[]),(0,0,"v",["i"]),(0,0,"v",["s"]),(0,0,"v",["i","s"]),(0,0,"v",["s","i"]),(0,0,"v",["Ai"]),(0,0,"v",["Bi"]),(0,0,"v",["aT"])]
noncomputable def Jp (n:String) (t:String):Fr:=⟨n,t⟩
noncomputable def Jo (n:String) (t:Nat×Nat×String×List String):Mr:=⟨n,t.1,t.2.1,t.2.2.1,t.2.2.2⟩
noncomputable def hV (t:Nat×Nat×String×List String):V:=.tup [vi t.1,vi t.2.1,.str t.2.2.1,.tup (t.2.2.2.map V.str)]
theorem uK:G "_law_terms"=some (.tup (js.map V.str)):=by rfl
theorem uL:G "_law_heads"=some (.tup (qX.map hV)):=by rfl
theorem nT:∀a,a<11→∀b,b<10→∀n,n<5→((List.range n).map λ j=>(a+j*(1+b)) % 11).Nodup:=by decide
theorem qZ:js.Nodup:=by decide
theorem qW:qX.Nodup:=by decide
theorem vj {α:Type} {l:List α} (h:∀(i j:Nat) x,l[i]? =some x→l[j]? =some x→i=j):l.Nodup:=
 List.pairwise_iff_getElem.mpr λ i j hi hj lt e=>J5 lt (h i j _ (JZ hi) ((JZ hj).trans (congrArg some e.symm)))
theorem md {α β:Type} {l:List α} {menu:List β} {tm:α→β} {a b:Nat} (ha:a<11) (hb:b<10) (hm:menu.Nodup) (hl:menu.length=11) (hn:l.length<5)
  (h:∀(j:Nat) r,l[j]? =some r→menu[(a+j*(1+b)) % 11]? =some (tm r)):l.Nodup:=by
 refine vj λ i j x h1 h2=>?_
 have g:∀{i},l[i]? =some x→((List.range l.length).map λ j=>(a+j*(1+b)) % 11)[i]? =some ((a+i*(1+b)) % 11):=λ {i} h=>by
  rw [List.getElem?_map,List.getElem?_range (List.getElem?_eq_some_iff.mp h).1];rfl
 exact cw (nT a ha b hb l.length hn) (g h1) ((g h2).trans (congrArg some (cw hm (h j x h2) (h i x h1))))
theorem dE {guard:St→Prop} {f:V→ax→St→(Option V→ax→St→Prop)→Prop} {Q:Option V→ax→St→Prop} {n:Nat} (I:Nat→ax→St→Prop) (h0:∀ρ σ,I n ρ σ→guard σ∧Q none ρ σ)
  (h1:∀i,i<n→∀ρ σ,I i ρ σ→guard σ∧∀K:Option V→ax→St→Prop,(∀ρ' σ',I (i+1) ρ' σ'→K none ρ' σ')→f (.int (i:Nat)) ρ σ K) {ρ:ax} {σ:St} (i:I 0 ρ σ):c2 guard f (bG 0 n) ρ σ Q:=
 zH (bG 0 n) I (by rw [su];exact h0) (λ i v hv ρ s L h k yy=>by
  obtain ⟨rfl,hi⟩:=gV hv
  exact ⟨(h1 i hi ρ s h).1,(h1 i hi ρ s h).2 L k⟩) ρ σ i
theorem nW {C:ak} {x:X} {ρ:ax} {σ:St} {n:Nat} (h:∀Q,Q (.int (n:Nat)) σ→aH C x ρ σ Q) (hn:n≤100000):∀Q,Q (bG 0 n) (λ yy=>True) σ→vf C (.rng1 x) ρ σ Q:=λ yy q=>h _ ⟨Kp n,KP.mpr hn,q⟩
theorem d0 {d w m:Nat} {n:Int} (k:Nat) {σ:St} {Q:V→St→Prop} (h:W σ w m) (e:n=(k:Int)) (hn:0<k) (hm:m<100000)
  (q:∀(r:Nat),r<k→∀σ',W σ' w (m+1)→σ'.len=σ.len→(∀k,k≠w→σ'.get k=σ.get k)→Q (.int r) σ'):aw (d+1) (.g "_law_draw") [.ref w,.int n] σ Q:=by
 subst e
 exact Ex h hn hm q
theorem xf (n:String) (hn:n≠"Finalize"):∀t∈js,(Jp n t).ok:=by
 have:∀t∈js,t∈bB:=by decide
 exact this
theorem xe (n:String) (hn:n≠"Finalize"):∀t∈qX,(Jo n t).ok:=by
 have:∀t∈qX,t.1≤1∧t.2.1≤1∧t.2.2.1∈bB∧(∀p∈t.2.2.2,p∈bB)∧t.2.2.2.length≤2:=by decide
 intro t ht
 exact ⟨hn,this t ht⟩
noncomputable def GE:X:=.ite (.cmp .eq (.sub (.loc 2) (.int 0)) (.str "f")) (.tup [.loc 8,.loc 9]) (.bin .add (.tup [.loc 8]) (.loc 9))
theorem nF {α β:Type} {menu:List β} {f:β→V} {mk:String→β→α} {tm:α→β} {v:α→V} {ok:α→Prop} {W0 a0 a1:String} {d w m many:Nat} {σ:St} {Q:V→St→Prop}
  (s0:dS W0 0=some a0) (s1:dS W0 1=some a1) (htm:∀n t,tm (mk n t)=t) (ok0:∀t∈menu,ok (mk a0 t)) (ok1:∀t∈menu,ok (mk a1 t)) (nd:menu.Nodup) (h11:menu.length=11)
  (hx:∀(n:String) t x0 x1 x3 x4 x5 x6 x7 s Q,Q (v (mk n t)) s→aH (aw (d+1)) GE [x0,x1,some (.str W0),x3,x4,x5,x6,x7,some (.str n),some (f t)] s Q)
  (h:W σ w m) (hn:many<5) (hm:m+20<100000)
  (q:∀(l:List α) σ',l.Nodup→l.length=many→(∀r∈l,ok r)→W σ' w (m+2+many)→σ'.len=σ.len+1→σ'.get σ.len=some (.list aa (l.map v))→(∀k,k<σ.len→k≠w→σ'.get k=σ.get k)→Q (.ref σ.len) σ'):
  aw (d+2) (.g "_law_members") [.ref w,.tup (menu.map f),.str W0,.int many] σ Q:=by
 have hw:=h.lt
 refine go mE rfl ?_
 apply dj (pS rfl)
 refine d0 11 h rfl (by decide) (JV (JU m 20) hm) λ a ha σ1 W1 l1 f1=>?_
 refine d0 10 W1 rfl (by decide) (JV (mh m (a:=1) (b:=20) rfl) hm) λ b hb σ2 W2 l2 f2=>?_
 have l0:σ2.len=σ.len:=l2.trans l1
 refine dl (nW (pX rfl) (JT (Kb hn) (by decide))) ?_
 rw [l0]
 refine dE (λ i ρ s=>∀P:Prop,(∀(l:List α) (x7 x8 x9:Option V),l.length=i→(∀(j:Nat) r,l[j]? =some r→menu[(a+j*(1+b)) % 11]? =some (tm r)∧ok r)→W s w (m+2+i)→s.len=σ.len+1→s.get σ.len=some (.list aa (l.map v))→(∀k,k<σ.len→k≠w→s.get k=σ.get k)→
  ρ=[some (.ref w),some (.tup (menu.map f)),some (.str W0),some (.int many),some (.int a),some (.int (1+b)),some (.ref σ.len),x7,x8,x9]→P)→P) (λ ρ s i=>i _ λ l x7 x8 x9 hl hmem Ws ls gs fs e=>?_) (λ i hi ρ s I=>I _ λ l x7 x8 x9 hl hmem Ws ls gs fs e=>?_)
  λ P k=>k [] none none none rfl GA (W2.frame (by rw [aD];exact Kt _) λ n hn=>aP (JV hn (l0▸hw))) (by rw [aD,l0]) (gY l0.symm) (λ k hk hkw=>(aP (l0▸hk)).trans ((f2 k hkw).trans (f1 k hkw))) rfl
 ·subst e
  refine ⟨trivial,bj (pX rfl) ?_⟩
  exact q l s (md ha hb nd h11 (hl▸hn) λ j r hr=>(hmem j r hr).1) hl (λ r hr=>(KT hr).elim λ j hj=>(hmem j r hj).2) Ws ls gs fs
 ·subst e
  refine ⟨trivial,λ K hK=>?_⟩
  have hx':(a+i*(1+b)) % 11<menu.length:=h11.symm▸K2 (a+i*(1+b)) (show 0<11 by decide)
  have e1:menu[(a+i*(1+b)) % 11]? =some menu[(a+i*(1+b)) % 11]:=JZ hx'
  have hmt:=Kh e1
  generalize menu[(a+i*(1+b)) % 11]=t at e1 hmt
  have e2:((a:Int)+(i:Int)*(1+(b:Int))) % (11:Int)=(((a+i*(1+b)) % 11:Nat):Int):=by
   rw [Int.natCast_emod,Int.natCast_add,Int.natCast_mul,Int.natCast_add];rfl
  have e3:c3 (menu.map f) (((a:Int)+(i:Int)*(1+(b:Int))) % (11:Int))=some (f t):=e2▸eu e1
  have hne:σ.len≠w:=J8 hw
  have fin:∀(n:String) (s1:St),ok (mk n t)→W s1 w (m+2+i+1)→s1.len=s.len→(∀k,k≠w→s1.get k=s.get k)→ah (aw (d+1)) [.set (.loc 9) (.sub (.loc 1) (.bin .mod (.bin .add (.loc 4) (.bin .mul (.loc 7) (.loc 5))) (.int 11))),.ex (.lapp (.loc 6) GE)]
    [some (.ref w),some (.tup (menu.map f)),some (.str W0),some (.int many),some (.int a),some (.int (1+b)),some (.ref σ.len),some (.int i),some (.str n),x9] s1 K:=by
   intro n s1 okn Ws1 ls1 fs1
   apply br (by dsimp! [And.intro (show (i:Int).natAbs<2 ^ 60 from Nat.lt_trans hi (Nat.lt_trans hn (by decide))),And.intro (show (1+(b:Int)).natAbs<2 ^ 60 from show 1+b<2 ^ 60 from Nat.lt_of_lt_of_le (Nat.add_lt_add_left hb 1) (by decide)),And.intro (show (0:Int)<11 by decide),dO e3])
   apply cJ (by dsimp!) ((fs1 _ hne).trans gs) (λ Q q=>hx n t _ _ _ _ _ _ _ _ Q q) (by rw [List.length_map,hl];exact JY hi (JY hn (by decide)))
   refine hK _ _ λ P k=>k (l++[mk n t]) _ _ _ (by rw [List.length_append,hl];rfl) (λ j r hr=>?_) (Ws1.frame (J3 aj.symm) λ k hk=>aR (J5 (JV hk hw))) (aj.trans (ls1.trans ls)) ?_ (λ k hk hkw=>(aR (J5 hk)).trans ((fs1 k hkw).trans (fs k hk hkw))) rfl
   ·rcases bU hr with hr|⟨rfl,rfl⟩
    ·exact hmem j r hr
    ·exact ⟨by rw [htm,hl];exact e1,okn⟩
   ·rw [List.map_append];exact aX (by rw [ls1,ls];exact Kc _)
  refine d0 6 Ws rfl (by decide) (JV (JT (JW (Kb (JY hi hn)) (m+2)) (mh m (a:=7) (b:=20) rfl)) hm) λ c hc s2 Ws1 ls1 fs1=>?_
  by_cases hc5:(c:Int)<5
  ·apply Jq hc5
   apply sj (by decide) (by decide) s0
   exact fin a0 s2 (ok0 t hmt) Ws1 ls1 fs1
  ·apply GG hc5
   apply sj (by decide) (by decide) s1
   exact fin a1 s2 (ok1 t hmt) Ws1 ls1 fs1
theorem jz {d w m many:Nat} {σ:St} {Q:V→St→Prop} (h:W σ w m) (hn:many<5) (hm:m+20<100000)
  (q:∀(l:List Fr) σ',l.Nodup→l.length=many→(∀r∈l,r.ok)→W σ' w (m+2+many)→σ'.len=σ.len+1→σ'.get σ.len=some (.list aa (l.map Fr.v))→(∀k,k<σ.len→k≠w→σ'.get k=σ.get k)→Q (.ref σ.len) σ'):
  aw (d+2) (.g "_law_members") [.ref w,.tup (js.map V.str),.str "fg",.int many] σ Q:=
 nF (mk:=Jp) (tm:=Fr.tm) (v:=Fr.v) (ok:=Fr.ok) rfl rfl (λ yy yy=>rfl) (xf "f" (by decide)) (xf "g" (by decide)) qZ rfl
  (λ n t yy yy yy yy yy yy yy s Q q=>pX rfl Q q) h hn hm q
theorem jy {d w m many:Nat} {σ:St} {Q:V→St→Prop} (h:W σ w m) (hn:many<5) (hm:m+20<100000)
  (q:∀(l:List Mr) σ',l.Nodup→l.length=many→(∀r∈l,r.ok)→W σ' w (m+2+many)→σ'.len=σ.len+1→σ'.get σ.len=some (.list aa (l.map Mr.v))→(∀k,k<σ.len→k≠w→σ'.get k=σ.get k)→Q (.ref σ.len) σ'):
  aw (d+2) (.g "_law_members") [.ref w,.tup (qX.map hV),.str "mn",.int many] σ Q:=
 nF (mk:=Jo) (tm:=λ r=>(r.g,r.s,r.ret,r.ps)) (v:=Mr.v) (ok:=Mr.ok) rfl rfl (λ yy yy=>rfl) (xe "m" (by decide)) (xe "n" (by decide)) qW rfl
  (λ n t yy yy yy yy yy yy yy s Q q=>by
   apply sj (by decide) (by decide) (show dS "mn" 0=some "m" from rfl)
   apply Jf (by decide)
   exact ⟨show 5≤aN by decide,q⟩) h hn hm q
noncomputable def bn (b:Bool):Nat:=if b then 1 else 0
noncomputable def ai (b:Bool):String:=if b then "s" else "i"
theorem hH {a b:Bool} (h:bn a=bn b):a=b:=by revert h;cases a<;>cases b<;>simp [bn]
theorem tQ {a b:Bool} (h:ai a=ai b):a=b:=by revert h;cases a<;>cases b<;>simp [ai]
structure cM where
 t:Bool
 r:Mr
noncomputable def cM.v (o:cM):V:=.tup [vi (bn o.t),o.r.v]
inductive Cd where
 |f (t a:Bool) (r:Fr)|m (t a:Bool) (r:Mr)
noncomputable def Cd.v:Cd→V
 | .f t a r=>.tup [.str "fields",vi (bn t),.str (ai a),r.v]
 | .m t a r=>.tup [.str "methods",vi (bn t),.str (ai a),r.v]
structure Im where
 b:cM
 a:Bool
 r:Mr
noncomputable def Im.v (i:Im):V:=.tup [i.b.v,.str (ai i.a),i.r.v]
structure Pr where
 tm:String
 x:cM
 y:cM
noncomputable def Pr.v (p:Pr):V:=.tup [.str "p",.str p.tm,p.x.v,p.y.v]
theorem cM.v_inj {a b:cM} (h:a.v=b.v):a=b:=by
 obtain ⟨t,r⟩:=a
 obtain ⟨t',r'⟩:=b
 simp only [cM.v,V.tup.injEq,List.cons.injEq,and_true] at h
 rw [hH (aO h.1),Mr.v_inj h.2]
theorem Cd.v_inj {a b:Cd} (h:a.v=b.v):a=b:=by
 cases a<;>cases b<;>simp only [Cd.v,V.tup.injEq,List.cons.injEq,and_true,V.str.injEq] at h
 ·rw [hH (aO h.2.1),tQ h.2.2.1,Fr.v_inj h.2.2.2]
 ·exact absurd h.1 (by decide)
 ·exact absurd h.1 (by decide)
 ·rw [hH (aO h.2.1),tQ h.2.2.1,Mr.v_inj h.2.2.2]
theorem Im.v_inj {a b:Im} (h:a.v=b.v):a=b:=by
 obtain ⟨t,r,s⟩:=a
 obtain ⟨t',r',s'⟩:=b
 simp only [Im.v,V.tup.injEq,List.cons.injEq,and_true,V.str.injEq] at h
 rw [cM.v_inj h.1,tQ h.2.1,Mr.v_inj h.2.2]
theorem Pr.v_inj {a b:Pr} (h:a.v=b.v):a=b:=by
 obtain ⟨t,r,s⟩:=a
 obtain ⟨t',r',s'⟩:=b
 simp only [Pr.v,V.tup.injEq,List.cons.injEq,and_true,true_and,V.str.injEq] at h
 rw [h.1,cM.v_inj h.2.1,cM.v_inj h.2.2]
structure De where
 f0:List Fr
 f1:List Fr
 m0:List Mr
 m1:List Mr
 code:List Cd
 impls:List Im
 props:List Pr
 events:List Pr
 held:cM
 k0:cM
 k1:cM
noncomputable def De.f (d:De) (t:Bool):List Fr:=if t then d.f1 else d.f0
noncomputable def De.m (d:De) (t:Bool):List Mr:=if t then d.m1 else d.m0
noncomputable def cM.ok (o:cM) (m0 m1:List Mr):Prop:=o.r∈(if o.t then m1 else m0)
noncomputable def Cd.ok (c:Cd) (f0 f1:List Fr) (m0 m1:List Mr):Prop:=match c with
 | .f t _ r=>r∈(if t then f1 else f0)
 | .m t _ r=>r∈(if t then m1 else m0)
noncomputable def Im.ok (i:Im) (m0 m1:List Mr):Prop:=i.b.ok m0 m1∧i.r∈m1
noncomputable def Pr.ok (p:Pr) (m0 m1:List Mr):Prop:=p.tm∈bB∧p.x.ok m0 m1∧p.y.ok m0 m1
noncomputable def sa (l:List Fr):Prop:=l.Nodup∧2≤l.length∧l.length≤4∧∀r∈l,r.ok
noncomputable def oi (l:List Mr):Prop:=l.Nodup∧2≤l.length∧l.length≤4∧∀r∈l,r.ok
structure De.ok (d:De):Prop where
 f0:sa d.f0
 f1:sa d.f1
 m0:oi d.m0
 m1:oi d.m1
 cl:1≤d.code.length∧d.code.length≤4
 c:∀c∈d.code,c.ok d.f0 d.f1 d.m0 d.m1
 il:1≤d.impls.length∧d.impls.length≤2
 i:∀i∈d.impls,i.ok d.m0 d.m1
 pl:d.props.length=2
 p:∀p∈d.props,p.ok d.m0 d.m1
 el:d.events.length=2
 e:∀p∈d.events,p.ok d.m0 d.m1
 h:d.held.ok d.m0 d.m1
 k0:d.k0.ok d.m0 d.m1
 k1:d.k1.ok d.m0 d.m1
structure c7 (σ:St) (b:Nat) (os:List O):Prop where
 g:∀(i:Nat) {o},os[i]? =some o→σ.get (b+i)=some o
theorem c7.fr {σ σ':St} {b:Nat} {os:List O} (B:c7 σ b os) (h:∀k,b≤k→k<b+os.length→σ'.get k=σ.get k):c7 σ' b os:=
 ⟨λ i yy e=>(h _ (JU b i) (J0 (Ka.mp e).1 b)).trans (B.g i e)⟩
theorem c7.put {σ:St} {b i:Nat} {os:List O} {o:O} (B:c7 σ b os) (h:i<os.length):c7 (σ.put (b+i) o) b (os.set i o):=by
 refine ⟨λ j o' e=>?_⟩
 rw [List.getElem?_set] at e
 split at e
 ·rename_i e'
  subst e'
  cases e
  exact aX (ac (B.g i (JZ h)))
 ·rename_i e'
  exact aA (λ x=>e' (Lj x).symm) (B.g j e)
theorem c7.snoc {σ:St} {b:Nat} {os:List O} {o:O} (B:c7 σ b os) (h:σ.len=b+os.length):c7 (σ.new o) b (os++[o]):=by
 refine ⟨λ j o' e=>?_⟩
 rcases bU e with e|⟨rfl,rfl⟩
 ·exact bT (B.g j e)
 ·exact gY h.symm
structure Sw (w:Nat) (σ σ':St):Prop where
 len:σ'.len=σ.len
 get:∀k,k≠w→σ'.get k=σ.get k
theorem Sw.trans {w:Nat} {σ σ' σ'':St} (a:Sw w σ σ') (b:Sw w σ' σ''):Sw w σ σ'':=⟨b.len.trans a.len,λ k h=>(b.get k h).trans (a.get k h)⟩
theorem Sw.at {w k:Nat} {σ σ':St} {o:O} (a:Sw w σ σ') (h:w<k) (g:σ.get k=some o):σ'.get k=some o:=(a.get k (J8 h)).trans g
theorem c7.sw {w:Nat} {σ σ':St} {b:Nat} {os:List O} (B:c7 σ b os) (h:w<b) (a:Sw w σ σ'):c7 σ' b os:=⟨λ i yy e=>a.at (JS h (JU b i)) (B.g i e)⟩
theorem iA {d w m:Nat} {n:Int} (k:Nat) {σ:St} {Q:V→St→Prop} (h:W σ w m) (e:n=(k:Int)) (hn:0<k) (hm:m<100000)
  (q:∀(r:Nat),r<k→∀σ',W σ' w (m+1)→Sw w σ σ'→Q (.int r) σ'):aw (d+1) (.g "_law_draw") [.ref w,.int n] σ Q:=
 d0 k h e hn hm λ r hr σ' W' l f=>q r hr σ' W' ⟨l,f⟩
theorem W.put {σ:St} {w m k:Nat} {o:O} (h:W σ w m) (hk:w<k):W (σ.put k o) w m:=h.frame (J3 aj.symm) λ yy hn=>aR (J5 (JV hn hk))
theorem W.new {σ:St} {w m:Nat} {o:O} (h:W σ w m):W (σ.new o) w m:=h.frame (by rw [aD];exact Kt _) λ yy hn=>aP (JV hn h.lt)
noncomputable def De.es (b:Nat) (d:De) (s:Nat):List (V×V):=
 [(.str "fields",.ref b),(.str "methods",.ref (b+1)),(.str "code",.ref (b+2)),(.str "impls",.ref (b+3)),(.str "props",.ref (b+4)),(.str "events",.ref (b+5))]++(match s with
  |0=>[]
  |1=>[(.str "held",d.held.v)]
  |_=>[(.str "held",d.held.v),(.str "kept",.ref (b+11))])
noncomputable def De.bs (b s:Nat) (d:De):List O:=
 [.list aa [.ref (b+7),.ref (b+9)],.list aa [.ref (b+8),.ref (b+10)],.list aa (d.code.map Cd.v),.list aa (d.impls.map Im.v),.list aa (d.props.map Pr.v),.list aa (d.events.map Pr.v),.dict aa 1 (d.es b s),
  .list aa (d.f0.map Fr.v),.list aa (d.m0.map Mr.v),.list aa (d.f1.map Fr.v),.list aa (d.m1.map Mr.v)]
noncomputable def DS (σ:St) (b s:Nat) (d:De):Prop:=c7 σ b (d.bs b s)
theorem DS.g {σ:St} {b s:Nat} {d:De} (D:DS σ b s d) (i:Nat) {o:O} (e:(d.bs b s)[i]? =some o):σ.get (b+i)=some o:=c7.g D i e
theorem DS.sw {w:Nat} {σ σ':St} {b s:Nat} {d:De} (D:DS σ b s d) (h:w<b) (a:Sw w σ σ'):DS σ' b s d:=c7.sw D h a
noncomputable def mz (b:Nat) (t:Bool):Nat:=if t then b+10 else b+8
noncomputable def fz (b:Nat) (t:Bool):Nat:=if t then b+9 else b+7
theorem DS.dm {σ:St} {b s:Nat} {d:De} (D:DS σ b s d):∀t,σ.get (mz b t)=some (.list aa ((d.m t).map Mr.v))
 |false=>D.g 8 rfl
 |true=>D.g 10 rfl
theorem DS.df {σ:St} {b s:Nat} {d:De} (D:DS σ b s d):∀t,σ.get (fz b t)=some (.list aa ((d.f t).map Fr.v))
 |false=>D.g 7 rfl
 |true=>D.g 9 rfl
theorem xc {b:Nat}:∀t,c3 [.ref (b+8),.ref (b+10)] ((bn t:Nat):Int)=some (.ref (mz b t))
 |false=>rfl
 |true=>rfl
theorem AH {b:Nat}:∀t,c3 [.ref (b+7),.ref (b+9)] ((bn t:Nat):Int)=some (.ref (fz b t))
 |false=>rfl
 |true=>rfl
theorem DS.q {σ:St} {b s:Nat} {d:De} (D:DS σ b s d):σ.get (b+6)=some (.dict aa 1 (d.es b s)):=D.g 6 rfl
theorem oi.t {d:De} (M0:oi d.m0) (M1:oi d.m1):∀t,oi (d.m t)
 |false=>M0
 |true=>M1
theorem sa.t {d:De} (M0:sa d.f0) (M1:sa d.f1):∀t,sa (d.f t)
 |false=>M0
 |true=>M1
theorem zr {r:Nat} (h:r<3):∃t,c3 [.int 0,.int 1,.int 0] (r:Int)=some (.int (bn t:Nat)):=match r,h with
 |0,_=>⟨false,rfl⟩
 |1,_=>⟨true,rfl⟩
 |2,_=>⟨false,rfl⟩
theorem Hn {d w m b s:Nat} {de:De} {σ:St} {Q:V→St→Prop} (D:DS σ b s de) (h:W σ w m) (hw:w<b) (M0:oi de.m0) (M1:oi de.m1) (hm:m<90000)
  (q:∀o:cM,o.ok de.m0 de.m1→∀σ',W σ' w (m+2)→DS σ' b s de→Sw w σ σ'→Q o.v σ'):aw (d+2) (.g "_law_one") [.ref w,.ref (b+6)] σ Q:=by
 refine go vE rfl ?_
 refine iA 3 h rfl (by decide) (gA hm rfl) λ r hr σ1 W1 S1=>?_
 obtain ⟨t,e⟩:=zr hr
 have D1:=D.sw hw S1
 have ok:=oi.t M0 M1 t
 apply dO e
 apply br (by dsimp! [D1.q,bO (D1.g 1 rfl) (xc t)])
 apply bH (D1.dm t) (congrArg some (Km _))
 refine iA (de.m t).length W1 rfl (JS (by decide) ok.2.1) (dR 1 hm rfl) λ x hx σ2 W2 S2=>?_
 have D2:=D1.sw hw S2
 apply bp (D2.dm t) (JZ hx)
 exact q ⟨t,(de.m t)[x]⟩ (by cases t<;>exact KF hx) σ2 W2 D2 (S1.trans S2)
theorem fq {σ:St} {n:Nat} {v:V} {l:List V} {t:Tg} {Q:Bool→Prop} (h:σ.get n=some (.list t l)) (hv:pu 8 v=true) (hl:pus 8 l=true) (q:Q (decide (v∈l))):i6 σ v (.ref n) Q:=by
 have h1:=gg σ 8 v hv
 have h2:=cY σ 8 l hl
 simp only [i6,h]
 exact ⟨_,_,h1.1,h2.1,h1.2,h2.2,_,decide_eq_true_iff.trans ⟨λ h=>Mine.toDs_map l▸Ke h,λ h=>(KB.mp (Mine.toDs_map l▸h)).elim λ w hw=>hY 8 8 w v (dW.mp hl w hw.1) hv hw.2▸hw.1⟩,q⟩
theorem wH (r:Fr):pu 8 r.v=true:=rfl
theorem aY {α:Type} {f:α→V} {n:Nat} (h:∀a,pu n (f a)=true) (l:List α):pus n (l.map f)=true:=dW.mpr λ yy hv=>(KB.mp hv).elim λ a e=>e.2▸h a
theorem kD (r:Mr):pu 4 r.v=true:=(Bool.and_true _).trans (aY (f:=V.str) (n:=2) (λ yy=>rfl) r.ps)
theorem dX {α:Type} {f:α→V} (hf:∀{a b},f a=f b→a=b) {l:List α} {a:α}:f a∈l.map f↔a∈l:=⟨λ h=>(KB.mp h).elim λ yy e=>hf e.2▸e.1,Ke⟩
theorem mU {α:Type} {a b:α} {l:List α} (h:(a::l).Nodup) (hb:b∉a::l):(b::l).Nodup:=by
 rw [List.nodup_cons] at h ⊢
 exact ⟨λ e=>hb (KK _ e),h.2⟩
theorem qY:∀t∈js,t∈bB:=by decide
theorem kE {r:Nat} (h:r<2):∃t,r=bn t:=match r,h with
 |0,_=>⟨false,rfl⟩
 |1,_=>⟨true,rfl⟩
theorem AF:∀a:Bool,dS "is" (Int.toNat ((bn a:Nat):Int))=some (ai a)
 |false=>rfl
 |true=>rfl
noncomputable def JC (z:Bool):String:=if z then "methods" else "fields"
theorem BH:∀z:Bool,c3 [.str "fields",.str "methods"] ((bn z:Nat):Int)=some (.str (JC z))
 |false=>rfl
 |true=>rfl
theorem yq:∀a:Bool,((bn a:Nat):Int)<1000
 |false=>by decide
 |true=>by decide
noncomputable def yI (d:De):Prop:=(sa d.f0∧sa d.f1)∧oi d.m0∧oi d.m1
theorem yI.m {d:De} (h:yI d):∀t,oi (d.m t):=oi.t h.2.1 h.2.2
theorem yI.f {d:De} (h:yI d):∀t,sa (d.f t):=sa.t h.1.1 h.1.2
structure DI (σ0:St) (w b m s:Nat) (d:De) (σ:St):Prop where
 D:DS σ b s d
 W:W σ w m
 len:σ.len=b+11
 fr:∀k,k<b→k≠w→σ.get k=σ0.get k
 hw:w<b
 ok:yI d
section
variable {σ0 σ σ':St} {w b m s:Nat} {d:De}
theorem DI.dr {m':Nat} (I:DI σ0 w b m s d σ) (W':Mine.L3.W σ' w m') (S:Sw w σ σ'):DI σ0 w b m' s d σ':=
 ⟨I.D.sw I.hw S,W',S.len.trans I.len,λ k h1 h2=>(S.get k h2).trans (I.fr k h1 h2),I.hw,I.ok⟩
theorem DI.put {i s':Nat} {o:O} {d':De} (I:DI σ0 w b m s d σ) (h:i<11) (e:(d.bs b s).set i o=d'.bs b s') (ok:yI d'):DI σ0 w b m s' d' (σ.put (b+i) o):=
 ⟨(c7.put I.D h:c7 _ b _)|>λ B=>(e▸B:c7 _ b (d'.bs b s')),I.W.put (JS I.hw (JU b i)),aj.trans I.len,λ k h1 h2=>(aR (J5 (JS h1 (JU b i)))).trans (I.fr k h1 h2),I.hw,ok⟩
theorem DI.app {α:Type} {f:α→V} {i:Nat} {l:List α} {a:α} (up:List α→De) (I:DI σ0 w b m s (up l) σ) (h:i<11) (hu:∀l',((up l).bs b s).set i (.list aa (l'.map f))=(up l').bs b s) (ok:yI (up (l++[a]))):
  DI σ0 w b m s (up (l++[a])) (σ.put (b+i) (.list aa (l.map f++[f a]))):=
 I.put h ((congrArg (λ x=>((up l).bs b s).set i (.list aa x)) List.map_append.symm).trans (hu (l++[a]))) ok
theorem DI.up {m':Nat} (I:DI σ0 w b m s d σ) (h:m≤m'):DI σ0 w b m' s d σ:=⟨I.D,I.W.mono h,I.len,I.fr,I.hw,I.ok⟩
theorem DI.one {dd:Nat} {Q:V→St→Prop} (I:DI σ0 w b m s d σ) (hm:m<90000) (q:∀o:cM,o.ok d.m0 d.m1→∀σ',DI σ0 w b (m+2) s d σ'→Q o.v σ'):aw (dd+2) (.g "_law_one") [.ref w,.ref (b+6)] σ Q:=
 Hn I.D I.W I.hw I.ok.2.1 I.ok.2.2 hm λ o ho σ' W' yy S=>q o ho σ' (I.dr W' S)
theorem DI.draw {dd:Nat} {n:Int} (k:Nat) {Q:V→St→Prop} (I:DI σ0 w b m s d σ) (e:n=(k:Int)) (hn:0<k) (hm:m<90000) (q:∀r,r<k→∀σ',DI σ0 w b (m+1) s d σ'→Q (.int r) σ'):aw (dd+1) (.g "_law_draw") [.ref w,.int n] σ Q:=
 iA k I.W e hn (JY hm (by decide)) λ r hr σ' W' S=>q r hr σ' (I.dr W' S)
end
noncomputable abbrev Rd (w b:Nat) (x2 x3 x4 x5 x6 x7 x8:Option V):ax:=[some (.ref w),some (.ref (b+6)),x2,x3,x4,x5,x6,x7,x8]
theorem t6 {dd:Nat} {σ0 σ:St} {w b m i:Nat} {l:List Pr} {m0 m1:List Mr} {t:String} {x2 x3 x4 x5 x6:Option V} {K:Option V→ax→St→Prop} (up:List Pr→De) (I:DI σ0 w b m 0 (up l) σ) (hm:m<85000) (hi:i<11) (hc:∀l,((up l).bs b 0)[i]? =some (.list aa (l.map Pr.v)))
  (hu:∀l l',((up l).bs b 0).set i (.list aa (l'.map Pr.v))=(up l').bs b 0) (hok:∀l,yI (up l)) (e0:(up l).m0=m0) (e1:(up l).m1=m1) (hl:l.length<10) (ht:t∈bB)
  (q:∀(p:Pr) σ',p.ok m0 m1→DI σ0 w b (m+4) 0 (up (l++[p])) σ'→K none (Rd w b x2 x3 x4 x5 x6 (some (.ref (b+i))) (some (.str t))) σ'):
  ah (aw (dd+3)) [.ex (.lapp (.loc 7) (.tup [.str "p",.loc 8,.call "_law_one" [.loc 0,.loc 1],.call "_law_one" [.loc 0,.loc 1]]))] (Rd w b x2 x3 x4 x5 x6 (some (.ref (b+i))) (some (.str t))) σ K:=by
 subst e0;subst e1
 apply yF (I.D.g i (hc l)) rfl
 refine I.one (JY hm (by decide)) λ o1 h1 σ1 I1=>?_
 refine I1.one (dR 2 hm rfl) λ o2 h2 σ2 I2=>?_
 apply oo (I2.D.g i (hc l)) (by rw [List.length_map];unfold aN;exact gA hl rfl)
 exact q ⟨t,o1,o2⟩ _ ⟨ht,h1,h2⟩ (DI.app up I2 hi (hu l) (hok _))
theorem wK {dd:Nat} {σ0 σ:St} {w b m i:Nat} {m0 m1:List Mr} {x2 x3 x4 x5 x6 x8:Option V} {K:Option V→ax→St→Prop} (up:List Pr→De) (I:DI σ0 w b m 0 (up []) σ) (hm:m<80000) (hi:i<11) (hc:∀l,((up l).bs b 0)[i]? =some (.list aa (l.map Pr.v)))
  (hu:∀l l',((up l).bs b 0).set i (.list aa (l'.map Pr.v))=(up l').bs b 0) (hok:∀l,yI (up l)) (e0:∀l,(up l).m0=m0) (e1:∀l,(up l).m1=m1)
  (q:∀(l:List Pr) x5 x8 σ',l.length=2→(∀p∈l,p.ok m0 m1)→DI σ0 w b (m+9) 0 (up l) σ'→K none (Rd w b x2 x3 x4 x5 x6 (some (.ref (b+i))) x8) σ'):
  ah (aw (dd+3)) [.set (.loc 8) (.sub (.gn "_law_terms") (.call "_law_draw" [.loc 0,.int 11])),.for_ false [5] (.rng1 (.int 2)) [.ex (.lapp (.loc 7) (.tup [.str "p",.loc 8,.call "_law_one" [.loc 0,.loc 1],.call "_law_one" [.loc 0,.loc 1]]))]]
   (Rd w b x2 x3 x4 x5 x6 (some (.ref (b+i))) x8) σ K:=by
 refine I.draw 11 rfl (by decide) (gA hm rfl) λ z hz σ1 I1=>?_
 have hz':z<js.length:=hz
 apply dO (eu (JZ hz'))
 have ht:js[z]∈bB:=qY _ (KF hz')
 refine dl (nW (n:=2) (pX rfl) (by decide)) ?_
 show c2 _ _ [.int 0,.int 1] _ _ _
 refine ⟨trivial,t6 up I1 (dR 1 hm rfl) hi hc hu hok (e0 _) (e1 _) (by decide) ht λ p1 σ2 h1 I2=>?_⟩
 refine ⟨trivial,t6 up I2 (dR 5 hm rfl) hi hc hu hok (e0 _) (e1 _) (show 1<10 by decide) ht λ p2 σ3 h2 I3=>?_⟩
 exact ⟨trivial,q [p1,p2] _ _ σ3 rfl (λ p hp=>(KG.mp hp).elim (λ e=>e▸h1) λ hp=>Ko.mp hp▸h2) I3⟩
theorem vt {dd:Nat} {σ0 σ:St} {w b m:Nat} {d:De} {x2 x3 x4 x5 x6 x7 x8:Option V} {K:Option V→ax→St→Prop} (I:DI σ0 w b m 0 d σ) (hm:m<85000) (hl:d.code.length<10)
  (q:∀(c:Cd) x2 x3 σ',c.ok d.f0 d.f1 d.m0 d.m1→DI σ0 w b (m+4) 0 {d with code:=d.code++[c]} σ'→K none (Rd w b x2 x3 x4 x5 x6 x7 x8) σ'):
  ah (aw (dd+3)) [.set (.loc 2) (.call "_law_draw" [.loc 0,.int 2]),.set (.loc 3) (.sub (.tup [.str "fields",.str "methods"]) (.call "_law_draw" [.loc 0,.int 2])),.ex (.lapp (.sub (.loc 1) (.str "code")) (.tup [.loc 3,.loc 2,.sub (.str "is") (.call "_law_draw" [.loc 0,.int 2]),.sub (.sub (.sub (.loc 1) (.loc 3)) (.loc 2)) (.call "_law_draw" [.loc 0,.len (.sub (.sub (.loc 1) (.loc 3)) (.loc 2))])]))]
   (Rd w b x2 x3 x4 x5 x6 x7 x8) σ K:=by
 apply dj (pS rfl)
 refine I.draw 2 rfl (by decide) (gA hm rfl) λ r hr σ1 I1=>?_
 obtain ⟨t,rfl⟩:=kE hr
 refine I1.draw 2 rfl (by decide) (dR 1 hm rfl) λ r hr σ2 I2=>?_
 obtain ⟨z,rfl⟩:=kE hr
 apply dO (BH z)
 apply bR I2.D.q rfl
 apply yF (I2.D.g 2 rfl) rfl
 refine I2.draw 2 rfl (by decide) (dR 2 hm rfl) λ r hr σ3 I3=>?_
 obtain ⟨a,rfl⟩:=kE hr
 apply sj (Kp _) (yq a) (AF a)
 have hL:(d.code.map Cd.v).length<aN:=by rw [List.length_map];exact JY hl (by decide)
 cases z with
 |false=>
  have ok:=I3.ok.f t
  apply bR I3.D.q rfl
  apply bO (I3.D.g 0 rfl) (AH t)
  apply bR I3.D.q rfl
  apply bO (I3.D.g 0 rfl) (AH t)
  apply bH (I3.D.df t) (congrArg some (Km _))
  refine I3.draw (d.f t).length rfl (JS (by decide) ok.2.1) (dR 3 hm rfl) λ x hx σ4 I4=>?_
  apply bp (I4.D.df t) (JZ hx)
  apply oo (I4.D.g 2 rfl) hL
  exact q (.f t a (d.f t)[x]) _ _ _ (KF hx) (DI.app (f:=Cd.v) (λ l=>{d with code:=l}) I4 (by decide) (λ yy=>rfl) I.ok)
 |true=>
  have ok:=I3.ok.m t
  apply bR I3.D.q rfl
  apply bO (I3.D.g 1 rfl) (xc t)
  apply bR I3.D.q rfl
  apply bO (I3.D.g 1 rfl) (xc t)
  apply bH (I3.D.dm t) (congrArg some (Km _))
  refine I3.draw (d.m t).length rfl (JS (by decide) ok.2.1) (dR 3 hm rfl) λ x hx σ4 I4=>?_
  apply bp (I4.D.dm t) (JZ hx)
  apply oo (I4.D.g 2 rfl) hL
  exact q (.m t a (d.m t)[x]) _ _ _ (KF hx) (DI.app (f:=Cd.v) (λ l=>{d with code:=l}) I4 (by decide) (λ yy=>rfl) I.ok)
theorem vh {dd:Nat} {σ0 σ:St} {w b m:Nat} {d:De} {x2 x3 x4 x5 x6 x7 x8:Option V} {K:Option V→ax→St→Prop} (I:DI σ0 w b m 0 d σ) (hm:m<85000) (hl:d.impls.length<10)
  (q:∀(c:Im) x6 σ',c.ok d.m0 d.m1→DI σ0 w b (m+4) 0 {d with impls:=d.impls++[c]} σ'→K none (Rd w b x2 x3 x4 x5 x6 x7 x8) σ'):
  ah (aw (dd+3)) [.set (.loc 6) (.sub (.sub (.loc 1) (.str "methods")) (.int 1)),.ex (.lapp (.sub (.loc 1) (.str "impls")) (.tup [.call "_law_one" [.loc 0,.loc 1],.sub (.str "is") (.call "_law_draw" [.loc 0,.int 2]),.sub (.loc 6) (.call "_law_draw" [.loc 0,.len (.loc 6)])]))]
   (Rd w b x2 x3 x4 x5 x6 x7 x8) σ K:=by
 apply br (by dsimp! [I.D.q,(I.D.g 1 rfl)])
 apply bR I.D.q rfl
 apply yF (I.D.g 3 rfl) rfl
 refine I.one (JY hm (by decide)) λ o ho σ1 I1=>?_
 refine I1.draw 2 rfl (by decide) (dR 2 hm rfl) λ r hr σ2 I2=>?_
 obtain ⟨a,rfl⟩:=kE hr
 apply sj (Kp _) (yq a) (AF a)
 apply bH (I2.D.dm true) (congrArg some (Km _))
 refine I2.draw d.m1.length rfl (JS (by decide) I2.ok.2.2.2.1) (dR 3 hm rfl) λ x hx σ3 I3=>?_
 apply bp (I3.D.dm true) (JZ hx)
 apply oo (I3.D.g 3 rfl) (by rw [List.length_map];exact JY hl (by decide))
 exact q ⟨o,a,d.m1[x]⟩ _ _ ⟨ho,KF hx⟩ (DI.app (f:=Im.v) (λ l=>{d with impls:=l}) I3 (by decide) (λ yy=>rfl) I.ok)
theorem tX {dd k:Nat} {σ0 σ:St} {w b m s:Nat} {d:De} {ρ:ax} {Q:List V→(St→Prop)→St→Prop} (I:DI σ0 w b m s d σ) (c:Nat) (hc:c≤5) (hk:0<k) (hk2:k≤5) (hm:m<90000) (q:∀r,r<k→∀σ',DI σ0 w b (m+1) s d σ'→Q (bG 0 (c+r:Nat)) (λ yy=>True) σ'):
  vf (aw (dd+1)) (.rng1 (.bin .add (.int (c:Nat)) (.call "_law_draw" [.loc 0,.int (k:Nat)]))) (some (.ref w)::ρ) σ Q:=by
 refine I.draw k rfl hk hm λ r hr σ' I'=>?_
 have h:c+r≤100000:=JT (Nat.add_le_add hc (JT (Kb hr) hk2)) (by decide)
 exact ⟨Kp (c+r),KP.mpr h,q r hr σ' I'⟩
theorem yb {dd:Nat} {σ0 σ:St} {w b m:Nat} {d:De} {x2 x3 x4 x5 x6 x7 x8:Option V} {l:List Y} {K:Option V→ax→St→Prop} (I:DI σ0 w b m 0 {d with code:=[]} σ) (hm:m<80000)
  (q:∀(lc:List Cd) x2 x3 x5 σ',1≤lc.length∧lc.length≤4→(∀c∈lc,c.ok d.f0 d.f1 d.m0 d.m1)→DI σ0 w b (m+17) 0 {d with code:=lc} σ'→ah (aw (dd+3)) l (Rd w b x2 x3 x4 x5 x6 x7 x8) σ' K):
  ah (aw (dd+3)) (.for_ false [5] (.rng1 (.bin .add (.int 2) (.call "_law_draw" [.loc 0,.int 3]))) [.set (.loc 2) (.call "_law_draw" [.loc 0,.int 2]),.set (.loc 3) (.sub (.tup [.str "fields",.str "methods"]) (.call "_law_draw" [.loc 0,.int 2])),.ex (.lapp (.sub (.loc 1) (.str "code")) (.tup [.loc 3,.loc 2,.sub (.str "is") (.call "_law_draw" [.loc 0,.int 2]),.sub (.sub (.sub (.loc 1) (.loc 3)) (.loc 2)) (.call "_law_draw" [.loc 0,.len (.sub (.sub (.loc 1) (.loc 3)) (.loc 2))])]))]::l)
   (Rd w b x2 x3 x4 x5 x6 x7 x8) σ K:=by
 refine gU (tX (k:=3) I 2 (by decide) (by decide) (by decide) (gA hm rfl) λ r hr σ1 I1=>?_)
 refine dE (λ i ρ s=>∀P:Prop,(∀(lc:List Cd) x2 x3 x5,lc.length=i→(∀c∈lc,c.ok d.f0 d.f1 d.m0 d.m1)→DI σ0 w b (m+1+4*i) 0 {d with code:=lc} s→ρ=Rd w b x2 x3 x4 x5 x6 x7 x8→P)→P)
  (λ ρ s i=>i _ λ lc x2 x3 x5 hl hc I' e=>⟨trivial,?_⟩) (λ i hi ρ s i'=>i' _ λ lc x2 x3 x5 hl hc I' e=>⟨trivial,λ K' hK=>?_⟩) λ P k=>k [] x2 x3 x5 rfl AB I1 rfl
 ·subst e
  have h4:2+r≤4:=JW (KV hr) 2
  exact q lc _ _ _ s ⟨hl.symm▸Nat.le_add_right_of_le (by decide),hl.symm▸h4⟩ hc (I'.up (JW (KJ 4 h4) (m+1)))
 ·subst e
  have h5:i≤5:=Kb (JS hi (JW (Kb hr) 2))
  refine vt I' (HO hm h5 rfl) (hl.symm▸JV h5 (by decide):lc.length<10) λ c x2 x3 σ2 hcc I2=>?_
  exact hK _ _ λ P k=>k (lc++[c]) x2 x3 _ (by rw [List.length_append,hl];rfl) (λ c' h=>(KY.mp h).elim (hc c') λ h=>Ko.mp h▸hcc) I2 rfl
theorem xN {dd:Nat} {σ0 σ:St} {w b m:Nat} {d:De} {x2 x3 x4 x5 x6 x7 x8:Option V} {l:List Y} {K:Option V→ax→St→Prop} (I:DI σ0 w b m 0 {d with impls:=[]} σ) (hm:m<80000)
  (q:∀(lc:List Im) x5 x6 σ',1≤lc.length∧lc.length≤2→(∀c∈lc,c.ok d.m0 d.m1)→DI σ0 w b (m+9) 0 {d with impls:=lc} σ'→ah (aw (dd+3)) l (Rd w b x2 x3 x4 x5 x6 x7 x8) σ' K):
  ah (aw (dd+3)) (.for_ false [5] (.rng1 (.bin .add (.int 1) (.call "_law_draw" [.loc 0,.int 2]))) [.set (.loc 6) (.sub (.sub (.loc 1) (.str "methods")) (.int 1)),.ex (.lapp (.sub (.loc 1) (.str "impls")) (.tup [.call "_law_one" [.loc 0,.loc 1],.sub (.str "is") (.call "_law_draw" [.loc 0,.int 2]),.sub (.loc 6) (.call "_law_draw" [.loc 0,.len (.loc 6)])]))]::l)
   (Rd w b x2 x3 x4 x5 x6 x7 x8) σ K:=by
 refine gU (tX (k:=2) I 1 (by decide) (by decide) (by decide) (gA hm rfl) λ r hr σ1 I1=>?_)
 refine dE (λ i ρ s=>∀P:Prop,(∀(lc:List Im) x5 x6,lc.length=i→(∀c∈lc,c.ok d.m0 d.m1)→DI σ0 w b (m+1+4*i) 0 {d with impls:=lc} s→ρ=Rd w b x2 x3 x4 x5 x6 x7 x8→P)→P)
  (λ ρ s i=>i _ λ lc x5 x6 hl hc I' e=>⟨trivial,?_⟩) (λ i hi ρ s i'=>i' _ λ lc x5 x6 hl hc I' e=>⟨trivial,λ K' hK=>?_⟩) λ P k=>k [] x5 x6 rfl AB I1 rfl
 ·subst e
  have h4:1+r≤2:=JW (KV hr) 1
  exact q lc _ _ s ⟨hl.symm▸JU 1 r,hl.symm▸h4⟩ hc (I'.up (JW (KJ 4 h4) (m+1)))
 ·subst e
  have h5:i≤5:=JT (Kb (JS hi (JW (Kb hr) 1))) (by decide)
  refine vh I' (HO hm h5 rfl) (hl.symm▸JV h5 (by decide):lc.length<10) λ c x6 σ2 hcc I2=>?_
  exact hK _ _ λ P k=>k (lc++[c]) _ x6 (by rw [List.length_append,hl];rfl) (λ c' h=>(KY.mp h).elim (hc c') λ h=>Ko.mp h▸hcc) I2 rfl
theorem JM {C:ak} {n:String} {v:V} {ρ:ax} {σ:St} (h:G n=some v):∀Q,Q v σ→aH C (.gn n) ρ σ Q:=λ Q q=>by
 show (match G n with|some v=>Q v σ|none=>False)
 rw [h];exact q
theorem cy {C:ak} {f:String} {xs:List X} {ρ:ax} {σ:St} {Q:V→St→Prop} (q:aI C xs ρ σ λ vs σ1=>C (.g f) vs σ1 Q):aH C (.call f xs) ρ σ Q:=q
theorem dP {σ:St} {r:Nat} {t:Tg} {es:List (V×V)} {nm:String} {v:V} {Q:V→St→Prop} (g:σ.get r=some (.dict t 1 es)) (h:ae es (.str nm)=some v) (q:Q v σ):fb (.ref r) (.str nm) σ Q:=bR g h q
theorem c7.add {σ σ':St} {b w:Nat} {os:List O} {o:O} (B:c7 σ b os) (hl:σ.len=b+os.length) (hw:w<b) (f:∀k,k<σ.len→k≠w→σ'.get k=σ.get k) (g:σ'.get σ.len=some o):c7 σ' b (os++[o]):=by
 refine ⟨λ j o' e=>?_⟩
 rcases bU e with e|⟨rfl,rfl⟩
 ·exact (f _ (ac (B.g j e)) (J8 (JS hw (JU b j)))).trans (B.g j e)
 ·rw [←hl];exact g
theorem ke {α:Type} {v:α→V} {ok:α→Prop} {gnm W0 nm:String} {gv:V} {d w m b z:Nat} {os:List O} {es:List (V×V)} {lz:List V} {σ:St} {rest:List Y} {ρ:ax} {L:Option V→ax→St→Prop} (hg:G gnm=some gv)
  (H:∀{m many:Nat} {σ:St} {Q:V→St→Prop},W σ w m→many<5→m+20<100000→(∀(l:List α) σ',l.Nodup→l.length=many→(∀r∈l,ok r)→W σ' w (m+2+many)→σ'.len=σ.len+1→σ'.get σ.len=some (.list aa (l.map v))→(∀k,k<σ.len→k≠w→σ'.get k=σ.get k)→Q (.ref σ.len) σ')→aw (d+3) (.g "_law_members") [.ref w,gv,.str W0,.int many] σ Q)
  (B:c7 σ b os) (hl:σ.len=b+os.length) (h:W σ w m) (hw:w<b) (hm:m<80000) (hq:os[6]? =some (.dict aa 1 es)) (he:ae es (.str nm)=some (.ref (b+z))) (hz:os[z]? =some (.list aa lz)) (hlz:lz.length<10)
  (q:∀(l:List α) σ',(l.Nodup∧2≤l.length∧l.length≤4∧∀r∈l,ok r)→W σ' w (m+10)→c7 σ' b ((os++[Mine.O.list aa (l.map v)]).set z (Mine.O.list aa (lz++[V.ref (b+os.length)])))→σ'.len=b+os.length+1→(∀k,k<b→k≠w→σ'.get k=σ.get k)→ah (aw (d+3)) rest (some (.ref w)::some (.ref (b+6))::ρ) σ' L):
  ah (aw (d+3)) (.ex (.lapp (.sub (.loc 1) (.str nm)) (.call "_law_members" [.loc 0,.gn gnm,.str W0,.bin .add (.int 2) (.call "_law_draw" [.loc 0,.int 3])]))::rest) (some (.ref w)::some (.ref (b+6))::ρ) σ L:=by
 apply dP (B.g 6 hq) he
 apply yF (B.g z hz) rfl
 apply cy
 apply aE (by dsimp!)
 apply aE (JM hg)
 refine iA 3 h rfl (by decide) (gA hm rfl) λ r hr σ1 W1 S1=>?_
 refine H (many:=2+r) W1 (J0 hr 2) (dR 21 hm rfl) λ l σ2 nd ln okl W2 l2 g2 f2=>?_
 have B2:c7 σ2 b (os++[.list aa (l.map v)]):=B.add hl hw (λ k h1 h2=>(f2 k (by rw [S1.len];exact h1) h2).trans (S1.get k h2)) (by rw [←S1.len];exact g2)
 have hzl:=(Ka.mp hz).1
 rw [S1.len,hl]
 apply oo (B2.g z (dk hz)) (JY hlz (by decide))
 have h4:2+r≤4:=JW (KV hr) 2
 refine q l _ ⟨nd,ln.symm▸JU 2 r,ln.symm▸h4,okl⟩ ((W2.mono (JT (JW h4 (m+3)) (mh m (a:=7) (b:=10) rfl))).put (JS hw (JU b z))) (B2.put (by rw [List.length_append];exact Ks _ hzl)) (by rw [aj,l2,S1.len,hl]) λ k h1 h2=>?_
 exact (aR (J5 (JS h1 (JU b z)))).trans ((f2 k (by rw [S1.len,hl];exact JS h1 (JU b _)) h2).trans (S1.get k h2))
theorem t2 {α:Type} {v:α→V} {σ0 σ:St} {dd w b m ci c0 c1:Nat} {d:De} {nm:String} {l0 l1:List α} {x2 x4 x5 x6 x7 x8:Option V} {L:Option V→ax→St→Prop} (up:List α→De) (hv:∀{a b},v a=v b→a=b) (hp:∀a,pu 8 (v a)=true) (I:DI σ0 w b m 0 d σ) (hm:m<80000)
  (he:ae (d.es b 0) (.str nm)=some (.ref (b+ci))) (hi:(d.bs b 0)[ci]? =some (.list aa [.ref (b+c0),.ref (b+c1)])) (h0:(d.bs b 0)[c0]? =some (.list aa (l0.map v))) (h1:(d.bs b 0)[c1]? =some (.list aa (l1.map v))) (hc:c1<11)
  (hu:∀l,(d.bs b 0).set c1 (.list aa (l.map v))=(up l).bs b 0) (e:up l1=d) (hk:∀a∈l0,a∉l1→yI (up (l1.set 0 a))) (n0:1≤l0.length) (n1:1≤l1.length)
  (q:∀(l:List α) x4 σ',DI σ0 w b (m+1) 0 (up l) σ'→L none (Rd w b x2 (some (.str nm)) x4 x5 x6 x7 x8) σ'):
  ah (aw (dd+3)) [.set (.loc 4) (.sub (.sub (.sub (.loc 1) (.loc 3)) (.int 0)) (.call "_law_draw" [.loc 0,.len (.sub (.sub (.loc 1) (.loc 3)) (.int 0))])),.ite (.cmp .notin (.loc 4) (.sub (.sub (.loc 1) (.loc 3)) (.int 1))) [.set (.sub (.sub (.sub (.loc 1) (.loc 3)) (.int 1)) (.int 0)) (.loc 4)] []]
   (Rd w b x2 (some (.str nm)) x4 x5 x6 x7 x8) σ L:=by
 apply dP I.D.q he
 apply bO (I.D.g ci hi) rfl
 apply dP I.D.q he
 apply bO (I.D.g ci hi) rfl
 apply bH (I.D.g c0 h0) (congrArg some (Km _))
 refine I.draw l0.length rfl n0 (gA hm rfl) λ x hx σ1 I1=>?_
 apply bp (I1.D.g c0 h0) (JZ hx)
 have ha:l0[x]∈l0:=KF hx
 generalize l0[x]=a at ha
 have hmem:∀Q:Bool→St→Prop,Q (!decide (a∈l1)) σ1→fe (aw (dd+2)) (.cmp .notin (.loc 4) (.sub (.sub (.loc 1) (.loc 3)) (.int 1))) (Rd w b x2 (some (.str nm)) (some (v a)) x5 x6 x7 x8) σ1 Q:=λ Q q=>by
  apply dP I1.D.q he
  apply bO (I1.D.g ci hi) rfl
  apply n9
  refine fq (I1.D.g c1 h1) (hp a) (aY hp l1) ?_
  rw [show decide (v a∈l1.map v)=decide (a∈l1) from decide_eq_decide.mpr (dX hv)]
  exact q
 by_cases hm:a∈l1
 ·exact ay (λ Q q=>hmem Q (by rw [decide_eq_true hm];exact q)) (q l1 _ σ1 (e.symm▸I1))
 ·refine aU (λ Q q=>hmem Q (by rw [decide_eq_false hm];exact q)) ?_
  refine zd (k:=0) (λ Q q=>q) (λ Q q=>?_) (λ Q q=>q) (I1.D.g c1 h1) (by rw [List.length_map];exact n1) ?_
  ·apply dP I1.D.q he
   apply bO (I1.D.g ci hi) rfl
   exact q
  ·refine q (l1.set 0 a) _ _ (I1.put hc ?_ (hk a ha hm))
   rw [←hu,List.map_set]
structure Rf where
 q:Nat
 f:Nat
 m:Nat
 f0:Nat
 f1:Nat
 m0:Nat
 m1:Nat
 c:Nat
 i:Nat
 p:Nat
 e:Nat
 k:Nat
structure cg (σ:St) (R:Rf) (lo hi:Nat) (d:De):Prop where
 ex:∃al,σ.get R.q=some (.dict aa 1 al)∧al.length≤20∧ae al (.str "fields")=some (.ref R.f)∧ae al (.str "methods")=some (.ref R.m)∧ae al (.str "code")=some (.ref R.c)∧ae al (.str "impls")=some (.ref R.i)∧ae al (.str "props")=some (.ref R.p)∧ae al (.str "events")=some (.ref R.e)∧
  ae al (.str "held")=some d.held.v∧ae al (.str "kept")=some (.ref R.k)
 f:σ.get R.f=some (.list aa [.ref R.f0,.ref R.f1])
 m:σ.get R.m=some (.list aa [.ref R.m0,.ref R.m1])
 f0:σ.get R.f0=some (.list aa (d.f0.map Fr.v))
 f1:σ.get R.f1=some (.list aa (d.f1.map Fr.v))
 m0:σ.get R.m0=some (.list aa (d.m0.map Mr.v))
 m1:σ.get R.m1=some (.list aa (d.m1.map Mr.v))
 c:σ.get R.c=some (.list aa (d.code.map Cd.v))
 i:σ.get R.i=some (.list aa (d.impls.map Im.v))
 p:σ.get R.p=some (.list aa (d.props.map Pr.v))
 e:σ.get R.e=some (.list aa (d.events.map Pr.v))
 k:σ.get R.k=some (.list aa [d.k0.v,d.k1.v])
 bd:(lo≤R.q∧R.q<hi)∧(lo≤R.f∧R.f<hi)∧(lo≤R.m∧R.m<hi)∧(lo≤R.f0∧R.f0<hi)∧(lo≤R.f1∧R.f1<hi)∧(lo≤R.m0∧R.m0<hi)∧(lo≤R.m1∧R.m1<hi)∧(lo≤R.c∧R.c<hi)∧(lo≤R.i∧R.i<hi)∧(lo≤R.p∧R.p<hi)∧(lo≤R.e∧R.e<hi)∧(lo≤R.k∧R.k<hi)
 len:hi≤σ.len
theorem cg.frame {σ σ':St} {R:Rf} {lo hi:Nat} {d:De} (D:cg σ R lo hi d) (hl:σ.len≤σ'.len) (h:∀k,lo≤k→k<hi→σ'.get k=σ.get k):cg σ' R lo hi d:=by
 obtain ⟨b1,b2,b3,b4,b5,b6,b7,b8,b9,b10,b11,b12⟩:=D.bd
 exact ⟨D.ex.imp λ al e=>⟨(h _ b1.1 b1.2).trans e.1,e.2⟩,(h _ b2.1 b2.2).trans D.f,(h _ b3.1 b3.2).trans D.m,(h _ b4.1 b4.2).trans D.f0,(h _ b5.1 b5.2).trans D.f1,(h _ b6.1 b6.2).trans D.m0,(h _ b7.1 b7.2).trans D.m1,(h _ b8.1 b8.2).trans D.c,(h _ b9.1 b9.2).trans D.i,(h _ b10.1 b10.2).trans D.p,(h _ b11.1 b11.2).trans D.e,(h _ b12.1 b12.2).trans D.k,D.bd,JT D.len hl⟩
theorem oF {C:ak} {ρ:ax} {σ:St} {xs:List X} {n:Nat} {Q:List V→St→Prop} (hl:σ.len=n) (q:aI C xs ρ (σ.new (.list aa [])) λ vs σ2=>Q (.ref n::vs) σ2):aI C (.list []::xs) ρ σ Q:=by
 subst hl;exact q
theorem eb {σ:St} {o:Mine.O} {n:Nat} (h:σ.len=n):(σ.new o).len=n+1:=by rw [aD,h]
theorem ze {C:ak} {ρ:ax} {σ σ':St} {l:List Y} {i kd n:Nat} {ks:List String} {xs:List X} {vs:List V} {Q:Option V→ax→St→Prop} (h:∀Q,Q vs σ'→aI C xs ρ σ Q) (hn:σ'.len=n) (q:ah C l (d9 ρ i (.ref n)) (σ'.new (.dict aa kd ((ks.map V.str).zip vs))) Q):ah C (.set (.loc i) (.dict kd ks xs)::l) ρ σ Q:=by
 subst hn;exact h _ q
theorem zO {l:List Fr} {a:Fr} (h:sa l) (ha:a.ok) (hn:a∉l):sa (l.set 0 a):=by
 cases l with
 |nil=>exact h
 |cons x l=>exact ⟨mU h.1 hn,h.2.1,h.2.2.1,λ r hr=>(KG.mp hr).elim (λ e=>e▸ha) λ hr=>h.2.2.2 r (KK _ hr)⟩
theorem zF {l:List Mr} {a:Mr} (h:oi l) (ha:a.ok) (hn:a∉l):oi (l.set 0 a):=by
 cases l with
 |nil=>exact h
 |cons x l=>exact ⟨mU h.1 hn,h.2.1,h.2.2.1,λ r hr=>(KG.mp hr).elim (λ e=>e▸ha) λ hr=>h.2.2.2 r (KK _ hr)⟩
theorem wf {dd:Nat} {σ0 σ:St} {w b m:Nat} {d:De} {x2 x3 x4 x5 x6 x7 x8:Option V} {Q:V→St→Prop} (I:DI σ0 w b m 0 d σ) (hm:m<79000)
  (q:∀(oh o1 o2:cM) σ',oh.ok d.m0 d.m1→o1.ok d.m0 d.m1→o2.ok d.m0 d.m1→W σ' w (m+6)→c7 σ' b ((De.bs b 2 {d with held:=oh,k0:=o1,k1:=o2})++[.list aa [o1.v,o2.v]])→σ'.len=b+12→(∀k,k<b→k≠w→σ'.get k=σ0.get k)→Q (.ref (b+6)) σ'):
  ah (aw (dd+3)) (bY.drop 6) (Rd w b x2 x3 x4 x5 x6 x7 x8) σ λ o yy σ'=>Q (cp o) σ':=by
 refine I.one (gA hm rfl) λ oh hoh σ1 I1=>?_
 apply sn I1.D.q rfl (show 6<aN by decide)
 have I2:DI σ0 w b (m+2) 1 {d with held:=oh} (σ1.put (b+6) (.dict aa 1 (bz (d.es b 0) (.str "held") oh.v))):=I1.put (i:=6) (by decide) rfl I.ok
 refine I2.one (dR 2 hm rfl) λ o1 h1 σ3 I3=>?_
 refine I3.one (dR 4 hm rfl) λ o2 h2 σ4 I4=>?_
 have B5:c7 (σ4.new (.list aa [o1.v,o2.v])) b ((De.bs b 1 {d with held:=oh,k0:=o1,k1:=o2})++[.list aa [o1.v,o2.v]]):=c7.snoc I4.D I4.len
 apply sn (B5.g 6 rfl) rfl (show 7<aN by decide)
 rw [I4.len]
 apply bj (by dsimp!)
 exact q oh o1 o2 _ hoh h1 h2 (I4.W.new.put (JS I.hw (JU b 6))) (B5.put (i:=6) (show 6<12 by decide)) (by rw [aj,aD,I4.len]) λ k a1 a2=>(aR (J5 (JS a1 (JU b 6)))).trans ((aP (by rw [I4.len];exact JS a1 (JU b 11))).trans (I4.fr k a1 a2))
theorem BV {dd:Nat} {σ0 σ:St} {w b m:Nat} {d:De} {x2 x3 x4 x5 x6 x7 x8:Option V} {l:List Y} {K:Option V→ax→St→Prop} (I:DI σ0 w b m 0 {d with props:=[],events:=[]} σ) (hm:m<79000)
  (q:∀(lp le:List Pr) x5 x7 x8 σ',lp.length=2→(∀p∈lp,p.ok d.m0 d.m1)→le.length=2→(∀p∈le,p.ok d.m0 d.m1)→DI σ0 w b (m+18) 0 {d with props:=lp,events:=le} σ'→ah (aw (dd+3)) l (Rd w b x2 x3 x4 x5 x6 x7 x8) σ' K):
  ah (aw (dd+3)) (.for_ false [7] (.tup [.sub (.loc 1) (.str "props"),.sub (.loc 1) (.str "events")]) [.set (.loc 8) (.sub (.gn "_law_terms") (.call "_law_draw" [.loc 0,.int 11])),.for_ false [5] (.rng1 (.int 2)) [.ex (.lapp (.loc 7) (.tup [.str "p",.loc 8,.call "_law_one" [.loc 0,.loc 1],.call "_law_one" [.loc 0,.loc 1]]))]]::l) (Rd w b x2 x3 x4 x5 x6 x7 x8) σ K:=by
 refine dl (items:=[.ref (b+4),.ref (b+5)]) (guard:=λ yy=>True) (λ Q q=>?_) ?_
 ·apply bR I.D.q rfl
  apply bR I.D.q rfl
  exact q
 refine ⟨trivial,wK (i:=4) (λ l=>{d with props:=l,events:=[]}) I (gA hm rfl) (by decide) (λ yy=>rfl) (λ yy yy=>rfl) (λ yy=>I.ok) (λ yy=>rfl) (λ yy=>rfl) λ lp x5 x8 σ1 h1 h2 I1=>?_⟩
 refine ⟨trivial,wK (i:=5) (λ l=>{d with props:=lp,events:=l}) I1 (dR 9 hm rfl) (by decide) (λ yy=>rfl) (λ yy yy=>rfl) (λ yy=>I.ok) (λ yy=>rfl) (λ yy=>rfl) λ le x5 x8 σ2 h3 h4 I2=>?_⟩
 exact ⟨trivial,q lp le _ _ _ σ2 h1 h2 h3 h4 I2⟩
theorem uB {dd:Nat} {σ0 σ:St} {w b m:Nat} {d:De} {x2 x3 x4 x5 x6 x7 x8:Option V} {Q:V→St→Prop} (I:DI σ0 w b m 0 {d with code:=[],impls:=[],props:=[],events:=[]} σ) (hm:m<78000)
  (q:∀(de:De) R σ',de.ok→cg σ' R b (b+12) de→σ'.len=b+12→W σ' w (m+60)→(∀k,k<b→k≠w→σ'.get k=σ0.get k)→Q (.ref R.q) σ'):
  ah (aw (dd+3)) (bY.drop 3) (Rd w b x2 x3 x4 x5 x6 x7 x8) σ λ o yy σ'=>Q (cp o) σ':=by
 refine yb (d:={d with impls:=[],props:=[],events:=[]}) I (gA hm rfl) λ lc x2 x3 x5 σ1 lc1 lc2 I1=>?_
 refine xN (d:={d with code:=lc,props:=[],events:=[]}) I1 (dR 17 hm rfl) λ li x5 x6 σ2 li1 li2 I2=>?_
 refine BV (d:={d with code:=lc,impls:=li}) I2 (dR 26 hm rfl) λ lp le x5 x7 x8 σ3 p1 p2 e1 e2 I3=>?_
 refine wf I3 (dR 44 hm rfl) λ oh o1 o2 σ4 hoh ho1 ho2 W4 B4 l4 f4=>?_
 refine q {d with code:=lc,impls:=li,props:=lp,events:=le,held:=oh,k0:=o1,k1:=o2} ⟨b+6,b,b+1,b+7,b+9,b+8,b+10,b+2,b+3,b+4,b+5,b+11⟩ σ4 ⟨I.ok.1.1,I.ok.1.2,I.ok.2.1,I.ok.2.2,lc1,lc2,li1,li2,p1,p2,e1,e2,hoh,ho1,ho2⟩ ?_ l4 (W4.mono (mh m (a:=50) (b:=60) rfl)) f4
 have lt:∀i,i<12→b≤b+i∧b+i<b+12:=λ i h=>⟨JU b i,J0 h b⟩
 exact ⟨⟨_,B4.g 6 rfl,show 8≤20 by decide,rfl,rfl,rfl,rfl,rfl,rfl,rfl,rfl⟩,B4.g 0 rfl,B4.g 1 rfl,B4.g 7 rfl,B4.g 9 rfl,B4.g 8 rfl,B4.g 10 rfl,B4.g 2 rfl,B4.g 3 rfl,B4.g 4 rfl,B4.g 5 rfl,B4.g 11 rfl,
  ⟨lt 6 (by decide),lt 0 (by decide),lt 1 (by decide),lt 7 (by decide),lt 9 (by decide),lt 8 (by decide),lt 10 (by decide),lt 2 (by decide),lt 3 (by decide),lt 4 (by decide),lt 5 (by decide),lt 11 (by decide)⟩,J3 l4.symm⟩
noncomputable def base (b:Nat) (lf lm:List V) (tl:List Mine.O):List Mine.O:=[.list aa lf,.list aa lm,.list aa [],.list aa [],.list aa [],.list aa [],.dict aa 1 [(.str "fields",.ref b),(.str "methods",.ref (b+1)),(.str "code",.ref (b+2)),(.str "impls",.ref (b+3)),(.str "props",.ref (b+4)),(.str "events",.ref (b+5))]]++tl
theorem rB {d w m:Nat} {σ:St} {Q:V→St→Prop} (h:W σ w m) (hm:m<70000)
  (q:∀(de:De) R σ',de.ok→cg σ' R σ.len (σ.len+12) de→σ'.len=σ.len+12→W σ' w (m+110)→(∀k,k<σ.len→k≠w→σ'.get k=σ.get k)→Q (.ref R.q) σ'):aw (d+4) (.g "_law_described") [.ref w] σ Q:=by
 have hw:=h.lt
 have hb:∃b,σ.len=b:=⟨_,rfl⟩
 obtain ⟨b,hb⟩:=hb
 rw [hb] at q hw
 refine go jX rfl ?_
 let e:Mine.O:=.list aa []
 have l1:(σ.new e).len=b+1:=eb hb
 have l2:((σ.new e).new e).len=b+2:=eb l1
 have l3:(((σ.new e).new e).new e).len=b+3:=eb l2
 have l4:((((σ.new e).new e).new e).new e).len=b+4:=eb l3
 have l5:(((((σ.new e).new e).new e).new e).new e).len=b+5:=eb l4
 have l6:((((((σ.new e).new e).new e).new e).new e).new e).len=b+6:=eb l5
 refine ze (λ Q q=>oF hb (oF l1 (oF l2 (oF l3 (oF l4 (oF l5 q)))))) l6 ?_
 have B0:c7 σ b []:=⟨λ yy yy h=>nomatch h⟩
 have B7:c7 _ b (base b [] [] []):=((((((B0.snoc (o:=e) hb).snoc (o:=e) l1).snoc (o:=e) l2).snoc (o:=e) l3).snoc (o:=e) l4).snoc (o:=e) l5).snoc (o:=.dict aa 1 [(.str "fields",.ref b),(.str "methods",.ref (b+1)),(.str "code",.ref (b+2)),(.str "impls",.ref (b+3)),(.str "props",.ref (b+4)),(.str "events",.ref (b+5))]) l6
 have W7:=((((((h.new (o:=e)).new (o:=e)).new (o:=e)).new (o:=e)).new (o:=e)).new (o:=e)).new (o:=.dict aa 1 [(.str "fields",.ref b),(.str "methods",.ref (b+1)),(.str "code",.ref (b+2)),(.str "impls",.ref (b+3)),(.str "props",.ref (b+4)),(.str "events",.ref (b+5))])
 have f7:∀k,k<b→(((((((σ.new e).new e).new e).new e).new e).new e).new (.dict aa 1 [(.str "fields",.ref b),(.str "methods",.ref (b+1)),(.str "code",.ref (b+2)),(.str "impls",.ref (b+3)),(.str "props",.ref (b+4)),(.str "events",.ref (b+5))])).get k=σ.get k:=λ k hk=>
  (aP (KX (Ks 6 hk) l6.symm)).trans ((aP (KX (Ks 5 hk) l5.symm)).trans ((aP (KX (Ks 4 hk) l4.symm)).trans ((aP (KX (Ks 3 hk) l3.symm)).trans ((aP (KX (Ks 2 hk) l2.symm)).trans ((aP (KX (Ks 1 hk) l1.symm)).trans (aP (hb.symm▸hk)))))))
 have l7:=eb (o:=.dict aa 1 [(.str "fields",.ref b),(.str "methods",.ref (b+1)),(.str "code",.ref (b+2)),(.str "impls",.ref (b+3)),(.str "props",.ref (b+4)),(.str "events",.ref (b+5))]) l6
 refine dl (items:=[.int 0,.int 1]) (guard:=λ yy=>True) (λ Q q=>pS rfl _ q) ?_
 refine ⟨trivial,ke (z:=0) uK jz B7 l7 W7 hw (gA hm rfl) rfl rfl rfl (by decide) λ f0 s1 k1 W1 B1 l1 f1=>?_⟩
 have B1:c7 s1 b (base b [.ref (b+7)] [] [.list aa (f0.map Fr.v)]):=B1
 refine ke (z:=1) uL jy B1 l1 W1 hw (dR 10 hm rfl) rfl rfl rfl (by decide) λ m0 s2 k2 W2 B2 l2 f2=>?_
 have B2:c7 s2 b (base b [.ref (b+7)] [.ref (b+8)] [.list aa (f0.map Fr.v),.list aa (m0.map Mr.v)]):=B2
 refine ⟨trivial,ke (z:=0) uK jz B2 l2 W2 hw (dR 20 hm rfl) rfl rfl rfl (show 1<10 by decide) λ f1' s3 k3 W3 B3 l3 f3=>?_⟩
 have B3:c7 s3 b (base b [.ref (b+7),.ref (b+9)] [.ref (b+8)] [.list aa (f0.map Fr.v),.list aa (m0.map Mr.v),.list aa (f1'.map Fr.v)]):=B3
 refine ke (z:=1) uL jy B3 l3 W3 hw (dR 30 hm rfl) rfl rfl rfl (show 1<10 by decide) λ m1' s4 k4 W4 B4 l4 f4=>?_
 have z:cM:=⟨false,⟨"",0,0,"",[]⟩⟩
 have I4:DI σ w b (m+40) 0 ⟨f0,f1',m0,m1',[],[],[],[],z,z,z⟩ s4:=
  ⟨B4,W4.mono (mh m (a:=40) (b:=40) rfl),l4,λ k a1 a2=>(f4 k a1 a2).trans ((f3 k a1 a2).trans ((f2 k a1 a2).trans ((f1 k a1 a2).trans (f7 k a1)))),hw,⟨k1,k3⟩,k2,k4⟩
 refine ⟨trivial,ck ?_⟩
 refine I4.draw 3 rfl (by decide) (dR 40 hm rfl) λ r hr s5 I5=>?_
 by_cases h0:(0:Int)<(r:Int)
 ·apply Iy h0
  refine dl (items:=[.str "fields",.str "methods"]) (guard:=λ yy=>True) (λ Q q=>pS rfl _ q) ?_
  refine ⟨trivial,t2 (ci:=0) (c0:=7) (c1:=9) (λ l=>⟨f0,l,m0,m1',[],[],[],[],z,z,z⟩) Fr.v_inj (λ a=>wH a) I5 (dR 41 hm rfl) rfl rfl rfl rfl (by decide) (λ yy=>rfl) rfl (λ a ha hn=>⟨⟨k1,zO k3 (k1.2.2.2 a ha) hn⟩,k2,k4⟩) (Kx k1.2.1) (Kx k3.2.1) λ l x4 s6 I6=>?_⟩
  refine ⟨trivial,t2 (ci:=1) (c0:=8) (c1:=10) (λ l'=>⟨f0,l,m0,l',[],[],[],[],z,z,z⟩) Mr.v_inj (λ a=>bu 4 8 _ (by decide) (kD a)) I6 (dR 42 hm rfl) rfl rfl rfl rfl (by decide) (λ yy=>rfl) rfl (λ a ha hn=>⟨I6.ok.1,k2,zF k4 (k2.2.2.2 a ha) hn⟩) (Kx k2.2.1) (Kx k4.2.1) λ l' x4 s7 I7=>?_⟩
  exact ⟨trivial,uB (m:=m+43) (d:=⟨f0,l,m0,l',[],[],[],[],z,z,z⟩) I7 (dR 43 hm rfl) λ de R σ' a1 a2 a3 a4 a5=>q de R σ' a1 a2 a3 (a4.mono (mh m (a:=103) (b:=110) rfl)) a5⟩
 ·apply G5 h0
  exact uB (m:=m+41) (d:=⟨f0,f1',m0,m1',[],[],[],[],z,z,z⟩) I5 (dR 41 hm rfl) λ de R σ' a1 a2 a3 a4 a5=>q de R σ' a1 a2 a3 (a4.mono (mh m (a:=101) (b:=110) rfl)) a5
theorem swap_perm {α:Type} {l:List α} {i j:Nat} (hi:i<l.length) (hj:j<l.length):((l.set i l[j]).set j l[i]).Perm l:=by
 have h:=(Array.swap_perm (xs:=l.toArray) (i:=i) (j:=j) hi hj).toList
 simpa using h
theorem zG {i j n:Nat}:((i:Int)+1+(j:Int)) % (n:Int)=(((i+1+j) % n:Nat):Int):=rfl
theorem zh {σ:St} {n:Nat} {a b:O}:(σ.put n a).put n b=σ.put n b:=congrArg St.mk (List.set_set _)
theorem Es {α:Type} {f:α→V} {d w m z:Nat} {xs:List α} {σ:St} {Q:V→St→Prop} (h:W σ w m) (hm:m<90000) (hz:σ.get z=some (.list aa (xs.map f))) (hw:w<z) (hl:2≤xs.length) (hl2:xs.length≤4)
  (q:∀(ys:List α) σ1,ys.Perm xs→W σ1 w (m+2)→Sw w σ σ1→Q .none ((σ1.put z (.list aa (ys.map f))))):aw (d+2) (.g "_law_swap") [.ref w,.ref z] σ Q:=by
 have hL:zy (.list aa (xs.map f))=some xs.length:=congrArg some (Km _)
 have hlp:0<xs.length:=JS (by decide) hl
 refine go tE rfl ?_
 apply aU (by dsimp! [bH hz hL,Iy (Int.ofNat_lt.mpr hl)])
 apply dj (by dsimp! [bH hz hL])
 refine iA xs.length h rfl hlp (gA hm rfl) λ i hi s1 W1 S1=>?_
 have g1:=S1.at hw hz
 apply bH g1 hL
 refine iA (xs.length - 1) W1 (Ly (Kx hl)).symm (Nat.sub_pos_of_lt hl) (dR 1 hm rfl) λ j hj s2 W2 S2=>?_
 have g2:=S2.at hw g1
 have hk:(i+1+j) % xs.length<xs.length:=K2 _ hlp
 apply bH g2 hL
 refine ⟨Lm.mpr hlp,?_⟩
 rw [zG]
 generalize (i+1+j) % xs.length=k at hk
 apply br (by dsimp! [bp g2 (List.getElem?_eq_getElem hi)])
 apply zd (k:=i) (by dsimp! [bp g2 (List.getElem?_eq_getElem hk)]) (by dsimp!) (by dsimp!) g2 (by rw [List.length_map];exact hi)
 apply zd (k:=k) (by dsimp!) (by dsimp!) (by dsimp!) (aX (ac g2)) (by rw [List.length_set,List.length_map];exact hk)
 rw [zh,←List.map_set,←List.map_set]
 exact q ((xs.set i xs[k]).set k xs[i]) s2 (swap_perm hi hk) W2 (S1.trans S2)
theorem zP {α:Type} {a:α} {l:List α}:a∈l→∃i:Nat,l[i]? =some a∧∀j:Nat,j<i→l[j]? ≠some a:=by
 induction l with
 |nil=>exact λ h=>absurd h Kf
 |cons x l ih=>
  exact λ h=>(Classical.em (x=a)).elim (λ e=>⟨0,congrArg some e,λ j hj=>absurd hj (Nat.not_lt_zero j)⟩) λ e=>(ih ((KG.mp h).resolve_left (Ne.symm e))).elim λ i h=>⟨i+1,h.1,λ j hj=>by
   cases j with
   |zero=>exact λ h=>e (J4 h)
   |succ j=>exact h.2 j (Nat.lt_of_succ_lt_succ hj)⟩
theorem sK {α:Type} {f:α→V} (hp:∀a,pu 8 (f a)=true) {l:List α} {a:α} (ha:a∈l) {z:Nat} {σ:St} {Q:V→St→Prop} (hz:σ.get z=some (.list aa (l.map f)))
  (q:∀i:Nat,i<l.length→Q (.int i) σ):gi (.ref z) (f a) σ Q:=by
 have s1:=gg σ 8 (f a) (hp a)
 have s2:=cY σ 8 (l.map f) (aY hp l)
 have e:jT (l.map f)=l.map (hZ∘f):=(Mine.toDs_map _).trans (List.map_map ..)
 simp only [gi,hz]
 exact (zP (a:=hZ (f a)) (e▸Ke (f:=hZ∘f) ha)).elim λ i h=>⟨_,_,i,s1.1,s2.1,s1.2,s2.2,h,q i (JS (Ka.mp h.1).1 (J3 ((congrArg List.length e).trans (Km _))))⟩
theorem Ev {α:Type} {f:α→V} (hf:∀{a b},f a=f b→a=b) (hp:∀a,pu 8 (f a)=true) {d w m z:Nat} {xs:List α} {a:α} {σ:St} {Q:V→St→Prop} (h:W σ w m) (hm:m<90000) (hz:σ.get z=some (.list aa (xs.map f))) (hw:w<z) (hl:2≤xs.length) (ha:a∈xs)
  (q:∀b∈xs,∀σ',W σ' w (m+1)→Sw w σ σ'→Q (f b) σ'):aw (d+2) (.g "_law_next") [.ref w,.ref z,f a] σ Q:=by
 have hL:zy (.list aa (xs.map f))=some xs.length:=congrArg some (Km _)
 refine go tG rfl ?_
 apply yF hz rfl
 refine sK hp ha hz λ i hi=>?_
 apply bH hz hL
 refine iA (xs.length - 1) h (Ly (Kx hl)).symm (Nat.sub_pos_of_lt hl) (gA hm rfl) λ j hj s2 W2 S2=>?_
 have g2:=S2.at hw hz
 have hlp:0<xs.length:=JS (by decide) hl
 have hk:(i+1+j) % xs.length<xs.length:=K2 _ hlp
 apply bH g2 hL
 refine ⟨Lm.mpr hlp,?_⟩
 apply bp (k:=(i+1+j) % xs.length) g2 (JZ hk)
 exact q _ (KF hk) _ W2 S2
noncomputable def De.ces (q:Nat) (d:De):List (V×V):=[(.str "held",d.held.v),(.str "fields",.ref (q+3)),(.str "methods",.ref (q+6)),(.str "code",.ref (q+7)),(.str "impls",.ref (q+8)),(.str "props",.ref (q+9)),(.str "events",.ref (q+10)),(.str "kept",.ref (q+11))]
noncomputable def De.cs (q:Nat) (d:De):List Mine.O:=
 [.dict aa 1 (d.ces q),.list aa (d.f0.map Fr.v),.list aa (d.f1.map Fr.v),.list aa [.ref (q+1),.ref (q+2)],.list aa (d.m0.map Mr.v),.list aa (d.m1.map Mr.v),.list aa [.ref (q+4),.ref (q+5)],
  .list aa (d.code.map Cd.v),.list aa (d.impls.map Im.v),.list aa (d.props.map Pr.v),.list aa (d.events.map Pr.v),.list aa [d.k0.v,d.k1.v]]
structure DC (σ:St) (q:Nat) (d:De):Prop where
 B:c7 σ q (d.cs q)
structure DT (σ0:St) (w q m:Nat) (d:De) (σ:St):Prop where
 B:c7 σ q (d.cs q)
 W:W σ w m
 hw:w<q
 ok:d.ok
 len:σ.len=σ0.len
 fr:∀k,k≠w→(k<q∨q+12≤k)→σ.get k=σ0.get k
section
variable {σ0 σ σ':St} {w q m:Nat} {d:De}
theorem DT.g (T:DT σ0 w q m d σ) (i:Nat) {o:Mine.O} (e:(d.cs q)[i]? =some o):σ.get (q+i)=some o:=T.B.g i e
theorem DT.dq (T:DT σ0 w q m d σ):σ.get q=some (.dict aa 1 (d.ces q)):=T.B.g 0 rfl
theorem DT.dr {m':Nat} (T:DT σ0 w q m d σ) (W':Mine.L3.W σ' w m') (S:Sw w σ σ'):DT σ0 w q m' d σ':=
 ⟨T.B.sw T.hw S,W',T.hw,T.ok,S.len.trans T.len,λ k h1 h2=>(S.get k h1).trans (T.fr k h1 h2)⟩
theorem DT.up {m':Nat} (T:DT σ0 w q m d σ) (h:m≤m'):DT σ0 w q m' d σ:=⟨T.B,T.W.mono h,T.hw,T.ok,T.len,T.fr⟩
theorem DT.put {i:Nat} {o:Mine.O} {d':De} (T:DT σ0 w q m d σ) (h:i<12) (e:(d.cs q).set i o=d'.cs q) (ok:d'.ok):DT σ0 w q m d' (σ.put (q+i) o):=
 have lt:q+i<q+12:=J0 h q
 ⟨e▸T.B.put h,T.W.put (JS T.hw (JU q i)),T.hw,ok,aj.trans T.len,λ k h1 h2=>(aR (h2.elim (λ h=>J5 (JS h (JU q i))) λ h=>J8 (JS lt h))).trans (T.fr k h1 h2)⟩
theorem DT.draw {dd:Nat} {n:Int} (k:Nat) {Q:V→St→Prop} (T:DT σ0 w q m d σ) (e:n=(k:Int)) (hn:0<k) (hm:m<90000) (k':∀r,r<k→∀σ',DT σ0 w q (m+1) d σ'→Q (.int r) σ'):aw (dd+1) (.g "_law_draw") [.ref w,.int n] σ Q:=
 iA k T.W e hn (JY hm (by decide)) λ r hr σ' W' S=>k' r hr σ' (T.dr W' S)
theorem DT.lt (T:DT σ0 w q m d σ) (i:Nat):w<q+i:=JS T.hw (JU q i)
theorem DT.next {α:Type} {f:α→V} (hf:∀{a b},f a=f b→a=b) (hp:∀a,pu 8 (f a)=true) {dd z:Nat} {xs:List α} {a:α} {Q:V→St→Prop} (T:DT σ0 w q m d σ) (hm:m<90000) (hz:(d.cs q)[z]? =some (.list aa (xs.map f))) (hl:2≤xs.length) (ha:a∈xs)
  (k:∀b∈xs,∀σ',DT σ0 w q (m+1) d σ'→Q (f b) σ'):aw (dd+2) (.g "_law_next") [.ref w,.ref (q+z),f a] σ Q:=
 Ev hf hp T.W hm (T.g z hz) (T.lt z) hl ha λ b hb σ' W' S=>k b hb σ' (T.dr W' S)
theorem mY {a b:V}:∀t:Bool,c3 [a,b] ((bn t:Nat):Int)=some (if t then b else a)
 |false=>rfl
 |true=>rfl
theorem BW {a b:V}:∀t:Bool,c3 [a,b] (1 - ((bn t:Nat):Int))=some (if t then a else b)
 |false=>rfl
 |true=>rfl
theorem Ez:∀t:Bool,(1:Int) - ((bn t:Nat):Int)=((bn (!t):Nat):Int)
 |false=>rfl
 |true=>rfl
theorem DT.moved {α:Type} {f:α→V} (hf:∀{a b},f a=f b→a=b) (hp:∀a,pu 8 (f a)=true) {dd ci z0 z1:Nat} {nm:String} {l0 l1:List α} {t:Bool} {r:α} {Q:V→St→Prop} (T:DT σ0 w q m d σ) (hm:m<80000)
  (he:ae (d.ces q) (.str nm)=some (.ref (q+ci))) (hi:(d.cs q)[ci]? =some (.list aa [.ref (q+z0),.ref (q+z1)])) (h0:(d.cs q)[z0]? =some (.list aa (l0.map f))) (h1:(d.cs q)[z1]? =some (.list aa (l1.map f))) (n0:2≤l0.length) (n1:2≤l1.length) (hr:r∈(if t then l1 else l0))
  (k:∀t' r',r'∈(if t' then l1 else l0)→∀σ',DT σ0 w q (m+2) d σ'→Q (.tup [vi (bn t'),f r']) σ'):aw (dd+3) (.g "_law_moved") [.ref w,.ref q,.str nm,.int (bn t:Nat),f r] σ Q:=by
 refine go rP rfl ?_
 have nxt:∀σ1,DT σ0 w q (m+1) d σ1→ah (aw (dd+2)) [.ret (.tup [.loc 3,.call "_law_next" [.loc 0,.sub (.sub (.loc 1) (.loc 2)) (.loc 3),.loc 4]])] [some (.ref w),some (.ref q),some (.str nm),some (.int (bn t:Nat)),some (f r)] σ1 (λ o yy σ'=>Q (cp o) σ'):=by
  intro σ1 T1
  apply dP T1.dq he
  apply bO (T1.g ci hi) (mY t)
  cases t
  ·exact T1.next hf hp (dR 1 hm rfl) h0 n0 hr λ b hb σ' T'=>k false b hb σ' T'
  ·exact T1.next hf hp (dR 1 hm rfl) h1 n1 hr λ b hb σ' T'=>k true b hb σ' T'
 have mem:∀Q:Bool→Prop,Q (decide (r∈(if t then l0 else l1)))→i6 σ (f r) (if t then .ref (q+z0) else .ref (q+z1)) Q:=λ Q h=>by
  cases t
  ·refine fq (T.g z1 h1) (hp r) (aY hp l1) ?_
   rw [show decide (f r∈l1.map f)=decide (r∈l1) from decide_eq_decide.mpr (dX hf)]
   exact h
  ·refine fq (T.g z0 h0) (hp r) (aY hp l0) ?_
   rw [show decide (f r∈l0.map f)=decide (r∈l0) from decide_eq_decide.mpr (dX hf)]
   exact h
 refine ck ?_
 apply dP T.dq he
 apply bO (T.g ci hi) (BW t)
 refine isin (mem _ ?_)
 by_cases hj:r∈(if t then l0 else l1)
 ·rw [decide_eq_true hj]
  refine T.draw 2 rfl (by decide) (gA hm rfl) λ i yy σ1 T1=>?_
  by_cases hi0:(i:Int)=0
  ·exact pE hi0 (nxt σ1 T1)
  ·refine pD hi0 ?_
   show Q (.tup [.int (1 - (bn t:Nat)),f r]) σ1
   rw [Ez]
   exact k (!t) r (by cases t<;>exact hj) σ1 (T1.up (Kt _))
 ·rw [decide_eq_false hj]
  exact nxt σ (T.up (Kt _))
theorem DT.movedM {dd:Nat} {t:Bool} {r:Mr} {Q:V→St→Prop} (T:DT σ0 w q m d σ) (hm:m<80000) (hr:r∈(if t then d.m1 else d.m0)) (k:∀t' r',r'∈(if t' then d.m1 else d.m0)→∀σ',DT σ0 w q (m+2) d σ'→Q (.tup [vi (bn t'),r'.v]) σ'):aw (dd+3) (.g "_law_moved") [.ref w,.ref q,.str "methods",.int (bn t:Nat),r.v] σ Q:=
 T.moved (ci:=6) (z0:=4) (z1:=5) Mr.v_inj (λ a=>bu 4 8 _ (by decide) (kD a)) hm rfl rfl rfl rfl T.ok.m0.2.1 T.ok.m1.2.1 hr k
theorem DT.movedF {dd:Nat} {t:Bool} {r:Fr} {Q:V→St→Prop} (T:DT σ0 w q m d σ) (hm:m<80000) (hr:r∈(if t then d.f1 else d.f0)) (k:∀t' r',r'∈(if t' then d.f1 else d.f0)→∀σ',DT σ0 w q (m+2) d σ'→Q (.tup [vi (bn t'),r'.v]) σ'):aw (dd+3) (.g "_law_moved") [.ref w,.ref q,.str "fields",.int (bn t:Nat),r.v] σ Q:=
 T.moved (ci:=3) (z0:=1) (z1:=2) Fr.v_inj (λ a=>wH a) hm rfl rfl rfl rfl T.ok.f0.2.1 T.ok.f1.2.1 hr k
theorem DT.other {dd:Nat} {o:cM} {Q:V→St→Prop} (T:DT σ0 w q m d σ) (hm:m<80000) (ho:o.ok d.m0 d.m1) (k:∀o':cM,o'.ok d.m0 d.m1→∀σ',DT σ0 w q (m+2) d σ'→Q o'.v σ'):aw (dd+4) (.g "_law_other") [.ref w,.ref q,o.v] σ Q:=by
 refine go rO rfl (nX (pS rfl) ?_)
 exact T.movedM hm ho λ t' r' hr' σ' T'=>k ⟨t',r'⟩ hr' σ' T'
theorem DT.swap {α:Type} {f:α→V} {dd z:Nat} {xs:List α} {Q:V→St→Prop} (T:DT σ0 w q m d σ) (hm:m<80000) (up:List α→De) (h:z<12) (hz:(d.cs q)[z]? =some (.list aa (xs.map f))) (hu:∀l,(d.cs q).set z (.list aa (l.map f))=(up l).cs q) (hl:2≤xs.length) (hl2:xs.length≤4) (ok:∀l,List.Perm l xs→(up l).ok)
  (k:∀l σ',DT σ0 w q (m+2) (up l) σ'→Q .none σ'):aw (dd+2) (.g "_law_swap") [.ref w,.ref (q+z)] σ Q:=
 Es T.W (JY hm (by decide)) (T.g z hz) (T.lt z) hl hl2 λ ys σ1 p W1 S1=>k ys _ ((T.dr W1 S1).put h (hu ys) (ok ys p))
end
theorem De.ok.perm {d:De} (h:d.ok) {f0 f1:List Fr} {m0 m1:List Mr} (p0:f0.Perm d.f0) (p1:f1.Perm d.f1) (p2:m0.Perm d.m0) (p3:m1.Perm d.m1):De.ok {d with f0:=f0,f1:=f1,m0:=m0,m1:=m1}:=by
 have fk:∀{l r:List Fr},l.Perm r→sa r→sa l:=λ p h=>⟨p.nodup_iff.mpr h.1,by rw [p.length_eq];exact h.2.1,by rw [p.length_eq];exact h.2.2.1,λ x hx=>h.2.2.2 x (p.mem_iff.mp hx)⟩
 have mk:∀{l r:List Mr},l.Perm r→oi r→oi l:=λ p h=>⟨p.nodup_iff.mpr h.1,by rw [p.length_eq];exact h.2.1,by rw [p.length_eq];exact h.2.2.1,λ x hx=>h.2.2.2 x (p.mem_iff.mp hx)⟩
 have one:∀o:cM,o.ok d.m0 d.m1→o.ok m0 m1:=λ o h=>by
  unfold cM.ok at h ⊢
  split at h<;>simp_all [p2.mem_iff,p3.mem_iff]
 refine ⟨fk p0 h.f0,fk p1 h.f1,mk p2 h.m0,mk p3 h.m1,h.cl,λ c hc=>?_,h.il,λ i hi=>⟨one _ (h.i i hi).1,p3.mem_iff.mpr (h.i i hi).2⟩,h.pl,λ p hp=>⟨(h.p p hp).1,one _ (h.p p hp).2.1,one _ (h.p p hp).2.2⟩,h.el,λ p hp=>⟨(h.e p hp).1,one _ (h.e p hp).2.1,one _ (h.e p hp).2.2⟩,one _ h.h,one _ h.k0,one _ h.k1⟩
 have:=h.c c hc
 cases c<;>simp only [Cd.ok] at this ⊢<;>split at this<;>simp_all [p0.mem_iff,p1.mem_iff,p2.mem_iff,p3.mem_iff]
theorem kc {α:Type} {P:α→Prop} {l:List α} {i:Nat} {a:α} (h:∀x∈l,P x) (ha:P a):∀x∈l.set i a,P x:=by
 intro x hx
 rcases List.mem_or_eq_of_mem_set hx with h1|rfl
 ·exact h x h1
 ·exact ha
noncomputable def JE (ρ:ax):Y→Bool
 | .ite t _ []=>wJ 20 t ρ==some false
 |_=>false
theorem iX {C:ak} {ρ:ax} {σ:St} {Q:Option V→ax→St→Prop}:∀(n:Nat) {l:List Y},(l.take n).all (JE ρ)=true→ah C (l.drop n) ρ σ Q→ah C l ρ σ Q
 |0,_,_,q=>q
 |n+1,[],_,q=>q
 |n+1,.ite t a []::l,h,q=>by
  have h:=J6.mp h
  exact ay (pT (Kk.mp h.1)) (iX n h.2 q)
 |n+1,.ite t a (_::_)::l,h,q=>nomatch h
 |n+1,.ex _::l,h,q=>nomatch h
 |n+1,.set _ _::l,h,q=>nomatch h
 |n+1,.aug _ _::l,h,q=>nomatch h
 |n+1,.ret _::l,h,q=>nomatch h
 |n+1,.for_ _ _ _ _::l,h,q=>nomatch h
 |n+1,.whl _ _::l,h,q=>nomatch h
 |n+1,.bad::l,h,q=>nomatch h
theorem uS {C:ak} {ρ:ax} {σ:St} {l:List Y} {x:X} {is:List Nat} {vs:List V} {Q:Option V→ax→St→Prop} (h:∀Q,Q (.tup vs) σ→aH C x ρ σ Q) (e:vs.length=is.length) (q:ah C l (jo ρ is vs) σ Q):ah C (.set (.tup is) x::l) ρ σ Q:=h _ ⟨e,q⟩
theorem sk {σ:St} {r k:Nat} {t:Tg} {l:List V} {v:V} {Q:St→Prop} (g:σ.get r=some (.list t l)) (h:k<l.length) (q:Q (σ.put r (.list t (l.set k v)))):cW (.ref r) (.int (k:Nat)) v σ Q:=FM g (Kp k) (Lm.mpr h) q
section
variable {σ0 σ:St} {w q m dd:Nat} {d:De} {Q:V→St→Prop}
theorem DT.setAt {α:Type} {f:α→V} {i y:Nat} {l:List α} {a:α} (up:List α→De) (T:DT σ0 w q m (up l) σ) (h:i<12) (hu:∀l',((up l).cs q).set i (.list aa (l'.map f))=(up l').cs q) (ok:(up (l.set y a)).ok):DT σ0 w q m (up (l.set y a)) (σ.put (q+i) (.list aa ((l.map f).set y (f a)))):=
 T.put h ((congrArg (λ x=>((up l).cs q).set i (.list aa x)) List.map_set.symm).trans (hu _)) ok
theorem De.ok.c' (h:d.ok) {y:Nat} {c:Cd} (hc:c.ok d.f0 d.f1 d.m0 d.m1):De.ok {d with code:=d.code.set y c}:=⟨h.f0,h.f1,h.m0,h.m1,(by rw [show (d.code.set y c).length=d.code.length from List.length_set];exact h.cl),kc h.c hc,h.il,h.i,h.pl,h.p,h.el,h.e,h.h,h.k0,h.k1⟩
theorem De.ok.i' (h:d.ok) {y:Nat} {c:Im} (hc:c.ok d.m0 d.m1):De.ok {d with impls:=d.impls.set y c}:=⟨h.f0,h.f1,h.m0,h.m1,h.cl,h.c,(by rw [show (d.impls.set y c).length=d.impls.length from List.length_set];exact h.il),kc h.i hc,h.pl,h.p,h.el,h.e,h.h,h.k0,h.k1⟩
theorem De.ok.p' (h:d.ok) {y:Nat} {c:Pr} (hc:c.ok d.m0 d.m1):De.ok {d with props:=d.props.set y c}:=⟨h.f0,h.f1,h.m0,h.m1,h.cl,h.c,h.il,h.i,List.length_set.trans h.pl,kc h.p hc,h.el,h.e,h.h,h.k0,h.k1⟩
theorem De.ok.e' (h:d.ok) {y:Nat} {c:Pr} (hc:c.ok d.m0 d.m1):De.ok {d with events:=d.events.set y c}:=⟨h.f0,h.f1,h.m0,h.m1,h.cl,h.c,h.il,h.i,h.pl,h.p,List.length_set.trans h.el,kc h.e hc,h.h,h.k0,h.k1⟩
noncomputable abbrev TQ (σ0:St) (w q m:Nat) (Q:V→St→Prop):Prop:=∀d' σ',DT σ0 w q (m+5) d' σ'→Q .none σ'
noncomputable abbrev Rt (w q:Nat) (way:Int) (l:List (Option V)):ax:=[some (.ref w),some (.ref q),some (.int way)]++l
theorem BA (T:DT σ0 w q m d σ) (k:TQ σ0 w q m Q):aw (dd+5) (.g "_law_turn") [.ref w,.ref q,.int 0] σ Q:=
 go aW rfl (iX 7 rfl (k d σ (T.up (JU m 5))))
theorem Bz (T:DT σ0 w q m d σ) (hm:m<70000) (k:TQ σ0 w q m Q):aw (dd+5) (.g "_law_turn") [.ref w,.ref q,.int 1] σ Q:=by
 refine go aW rfl (aU (pT rfl) ?_)
 apply dO rfl
 apply bR T.dq rfl
 refine T.draw 2 rfl (by decide) (gA hm rfl) λ r hr σ1 T1=>?_
 obtain ⟨t,rfl⟩:=kE hr
 apply bO (T1.g 3 rfl) (mY t)
 cases t
 ·exact T1.swap (dR 1 hm rfl) (λ l=>{d with f0:=l}) (by decide) rfl (λ yy=>rfl) T.ok.f0.2.1 T.ok.f0.2.2.1 (λ l p=>T.ok.perm p (.refl _) (.refl _) (.refl _)) λ l σ2 T2=>iX 6 rfl (k _ _ (T2.up (JU _ 2)))
 ·exact T1.swap (dR 1 hm rfl) (λ l=>{d with f1:=l}) (by decide) rfl (λ yy=>rfl) T.ok.f1.2.1 T.ok.f1.2.2.1 (λ l p=>T.ok.perm (.refl _) p (.refl _) (.refl _)) λ l σ2 T2=>iX 6 rfl (k _ _ (T2.up (JU _ 2)))
theorem By (T:DT σ0 w q m d σ) (hm:m<70000) (k:TQ σ0 w q m Q):aw (dd+5) (.g "_law_turn") [.ref w,.ref q,.int 2] σ Q:=by
 refine go aW rfl (aU (pT rfl) ?_)
 apply dO rfl
 apply bR T.dq rfl
 refine T.draw 2 rfl (by decide) (gA hm rfl) λ r hr σ1 T1=>?_
 obtain ⟨t,rfl⟩:=kE hr
 apply bO (T1.g 6 rfl) (mY t)
 cases t
 ·exact T1.swap (dR 1 hm rfl) (λ l=>{d with m0:=l}) (by decide) rfl (λ yy=>rfl) T.ok.m0.2.1 T.ok.m0.2.2.1 (λ l p=>T.ok.perm (.refl _) (.refl _) p (.refl _)) λ l σ2 T2=>iX 6 rfl (k _ _ (T2.up (JU _ 2)))
 ·exact T1.swap (dR 1 hm rfl) (λ l=>{d with m1:=l}) (by decide) rfl (λ yy=>rfl) T.ok.m1.2.1 T.ok.m1.2.2.1 (λ l p=>T.ok.perm (.refl _) (.refl _) (.refl _) p) λ l σ2 T2=>iX 6 rfl (k _ _ (T2.up (JU _ 2)))
theorem Bs (T:DT σ0 w q m d σ) (hm:m<70000) (k:TQ σ0 w q m Q):aw (dd+5) (.g "_law_turn") [.ref w,.ref q,.int 7] σ Q:=by
 refine go aW rfl (iX 3 rfl (aU (pT rfl) ?_))
 apply dO rfl
 apply bR T.dq rfl
 have e:=T.ok.pl
 exact T.swap (gA hm rfl) (λ l=>{d with props:=l}) (by decide) rfl (λ yy=>rfl) (J3 e.symm) (by rw [e];decide) (λ l p=>⟨T.ok.f0,T.ok.f1,T.ok.m0,T.ok.m1,T.ok.cl,T.ok.c,T.ok.il,T.ok.i,p.length_eq.trans e,λ x hx=>T.ok.p x (p.mem_iff.mp hx),T.ok.el,T.ok.e,T.ok.h,T.ok.k0,T.ok.k1⟩) λ l σ2 T2=>iX 3 rfl (k _ _ (T2.up (JU _ 3)))
theorem Br (T:DT σ0 w q m d σ) (hm:m<70000) (k:TQ σ0 w q m Q):aw (dd+5) (.g "_law_turn") [.ref w,.ref q,.int 8] σ Q:=by
 refine go aW rfl (iX 3 rfl (aU (pT rfl) ?_))
 apply dO rfl
 apply bR T.dq rfl
 have e:=T.ok.el
 exact T.swap (gA hm rfl) (λ l=>{d with events:=l}) (by decide) rfl (λ yy=>rfl) (J3 e.symm) (by rw [e];decide) (λ l p=>⟨T.ok.f0,T.ok.f1,T.ok.m0,T.ok.m1,T.ok.cl,T.ok.c,T.ok.il,T.ok.i,T.ok.pl,T.ok.p,p.length_eq.trans e,λ x hx=>T.ok.e x (p.mem_iff.mp hx),T.ok.h,T.ok.k0,T.ok.k1⟩) λ l σ2 T2=>iX 3 rfl (k _ _ (T2.up (JU _ 3)))
theorem xU {way y:Int} {y':Nat} {s t a r:V} {l:List (Option V)} {K:Option V→ax→St→Prop} (hw:way=3∨way=4) (T:DT σ0 w q m d σ) (ey:y=(y':Int)) (hy:y'<d.code.length) (c:Cd) (hc:c.ok d.f0 d.f1 d.m0 d.m1) (e:c.v=.tup [s,t,a,r]) (k:∀ρ d' σ',DT σ0 w q m d' σ'→K none ρ σ'):
  ah (aw (dd+4)) (.set (.sub (.sub (.loc 1) (.str "code")) (.loc 3)) (.tup [.loc 4,.loc 5,.loc 6,.loc 7])::d4.drop 2) (Rt w q way ([some (.int y),some s,some t,some a,some r]++l)) σ K:=by
 subst ey
 apply bR T.dq rfl
 apply sk (T.g 7 rfl) (by rw [List.length_map];exact hy)
 rw [←e]
 have R:=k (Rt w q way ([some (.int (y':Nat)),some s,some t,some a,some r]++l)) _ _ (DT.setAt (f:=Cd.v) (i:=7) (y:=y') (λ l=>{d with code:=l}) T (by decide) (λ yy=>rfl) (T.ok.c' hc))
 rcases hw with rfl|rfl
 ·exact iX 5 rfl R
 ·exact iX 5 rfl R
theorem GC {way y:Int} {y':Nat} {s t a r:V} {l:List (Option V)} {K:Option V→ax→St→Prop} (hw:way=3∨way=4) (T:DT σ0 w q m d σ) (hm:m<79000) (ey:y=(y':Int)) (hy:y'<d.code.length) (c:Cd) (hc:c.ok d.f0 d.f1 d.m0 d.m1) (e:c.v=.tup [s,t,a,r]) (k:∀ρ d' σ',DT σ0 w q (m+2) d' σ'→K none ρ σ'):
  ah (aw (dd+4)) (.set (.tup [5,7]) (.call "_law_moved" [.loc 0,.loc 1,.loc 4,.loc 5,.loc 7])::.set (.sub (.sub (.loc 1) (.str "code")) (.loc 3)) (.tup [.loc 4,.loc 5,.loc 6,.loc 7])::d4.drop 2) (Rt w q way ([some (.int y),some s,some t,some a,some r]++l)) σ K:=by
 cases c with
 |f ct ca cr=>
  cases e
  exact T.movedF (gA hm rfl) hc λ t' r' hr' σ3 T3=>⟨rfl,xU hw T3 ey hy (.f t' ca r') hr' rfl k⟩
 |m ct ca cr=>
  cases e
  exact T.movedM (gA hm rfl) hc λ t' r' hr' σ3 T3=>⟨rfl,xU hw T3 ey hy (.m t' ca r') hr' rfl k⟩
theorem Hm (c:Cd):∃s t a r,c.v=.tup [s,t,.str (ai a),r]∧∃c':Cd,c'.v=.tup [s,t,.str (ai (!a)),r]∧∀f0 f1 m0 m1,c.ok f0 f1 m0 m1→c'.ok f0 f1 m0 m1:=by
 cases c with
 |f t a r=>exact ⟨_,_,a,_,rfl,.f t (!a) r,rfl,λ yy yy yy yy h=>h⟩
 |m t a r=>exact ⟨_,_,a,_,rfl,.m t (!a) r,rfl,λ yy yy yy yy h=>h⟩
theorem Bw (T:DT σ0 w q m d σ) (hm:m<70000) (k:TQ σ0 w q m Q):aw (dd+5) (.g "_law_turn") [.ref w,.ref q,.int 3] σ Q:=by
 refine go aW rfl (iX 1 rfl (aU (pT rfl) ?_))
 apply dj (by dsimp! [T.dq,bH (T.g 7 rfl) (congrArg some (List.length_map _))])
 refine T.draw d.code.length rfl T.ok.cl.1 (gA hm rfl) λ y hy σ1 T1=>?_
 have hc:=T.ok.c _ (KF hy)
 have he:=JZ hy
 generalize d.code[y]=c at hc he
 obtain ⟨s,t,a,r,e,c',e',f'⟩:=Hm c
 apply uS (vs:=[s,t,.str (ai a),r]) (by dsimp! [T1.dq,bO (T1.g 7 rfl) ((eu he).trans (congrArg some e))]) rfl
 refine ay (pT rfl) ?_
 exact GC (.inl rfl) T1 (dR 1 hm rfl) rfl hy c hc e λ ρ d' σ' T'=>k d' σ' (T'.up (mh m (a:=3) (b:=5) rfl))
theorem Bv (T:DT σ0 w q m d σ) (hm:m<70000) (k:TQ σ0 w q m Q):aw (dd+5) (.g "_law_turn") [.ref w,.ref q,.int 4] σ Q:=by
 refine go aW rfl (iX 1 rfl (aU (pT rfl) ?_))
 apply dj (by dsimp! [T.dq,bH (T.g 7 rfl) (congrArg some (List.length_map _))])
 refine T.draw d.code.length rfl T.ok.cl.1 (gA hm rfl) λ y hy σ1 T1=>?_
 have hc:=T.ok.c _ (KF hy)
 have he:=JZ hy
 generalize d.code[y]=c at hc he
 obtain ⟨s,t,a,r,e,c',e',f'⟩:=Hm c
 apply uS (vs:=[s,t,.str (ai a),r]) (by dsimp! [T1.dq,bO (T1.g 7 rfl) ((eu he).trans (congrArg some e))]) rfl
 refine ck (EN rfl ?_)
 refine T1.draw 2 rfl (by decide) (dR 1 hm rfl) λ z yy σ2 T2=>?_
 by_cases hz:(z:Int)=0
 ·exact pE hz (GC (.inr rfl) T2 (dR 2 hm rfl) rfl hy c hc e λ ρ d' σ' T'=>k d' σ' (T'.up (mh m (a:=4) (b:=5) rfl)))
 ·refine pD hz ?_
  refine br (v:=.str (ai (!a))) (by cases a<;>exact pX rfl) ?_
  exact xU (.inr rfl) T2 rfl hy c' (f' _ _ _ _ hc) e' λ ρ d' σ' T'=>k d' σ' (T'.up (mh m (a:=2) (b:=5) rfl))
theorem H5 {C:ak} {ρ:ax} {xs:List X} {vs:List V} (h:∀Q,Q vs σ→aI C xs ρ σ Q):∀Q,Q (.tup vs) σ→aH C (.tup xs) ρ σ Q:=λ Q q=>h (λ vs σ=>Q (.tup vs) σ) q
theorem CE {C:ak} {ρ:ax} {a:Bool} (h:bK ρ 6=some (.str (ai a))):∀Q,Q (.str (ai (!a))) σ→aH C (.ite (.cmp .eq (.loc 6) (.str "i")) (.str "s") (.str "i")) ρ σ Q:=by
 cases a with
 |false=>exact pX (show (wJ 19 (.cmp .eq (.loc 6) (.str "i")) ρ).bind _=_ by rw [show wJ 19 (.cmp .eq (.loc 6) (.str "i")) ρ=(bK ρ 6).bind λ u=>vX .eq u (.str "i") from rfl,h];rfl)
 |true=>exact pX (show (wJ 19 (.cmp .eq (.loc 6) (.str "i")) ρ).bind _=_ by rw [show wJ 19 (.cmp .eq (.loc 6) (.str "i")) ρ=(bK ρ 6).bind λ u=>vX .eq u (.str "i") from rfl,h];rfl)
theorem Bu (T:DT σ0 w q m d σ) (hm:m<70000) (k:TQ σ0 w q m Q):aw (dd+5) (.g "_law_turn") [.ref w,.ref q,.int 5] σ Q:=by
 refine go aW rfl (iX 2 rfl (aU (pT rfl) ?_))
 apply dj (by dsimp! [T.dq,bH (T.g 8 rfl) (congrArg some (List.length_map _))])
 refine T.draw d.impls.length rfl T.ok.il.1 (gA hm rfl) λ y hy σ1 T1=>?_
 have hc:=T.ok.i _ (KF hy)
 have he:=JZ hy
 generalize d.impls[y]=c at hc he
 apply uS (vs:=[c.b.v,.str (ai c.a),c.r.v]) (by dsimp! [T1.dq,bp (T1.g 8 rfl) he]) rfl
 refine aU (pT rfl) ?_
 refine T1.other (dR 1 hm rfl) hc.1 λ o' ho' σ2 T2=>?_
 apply bR T2.dq rfl
 apply sk (T2.g 8 rfl) (by rw [List.length_map];exact hy)
 exact iX 4 rfl (k _ _ ((DT.setAt (f:=Im.v) (i:=8) (y:=y) (a:=⟨o',c.a,c.r⟩) (λ l=>{d with impls:=l}) T2 (by decide) (λ yy=>rfl) (T.ok.i' ⟨ho',hc.2⟩)).up (mh m (a:=3) (b:=5) rfl)))
theorem Bt (T:DT σ0 w q m d σ) (hm:m<70000) (k:TQ σ0 w q m Q):aw (dd+5) (.g "_law_turn") [.ref w,.ref q,.int 6] σ Q:=by
 refine go aW rfl (iX 2 rfl (aU (pT rfl) ?_))
 apply dj (by dsimp! [T.dq,bH (T.g 8 rfl) (congrArg some (List.length_map _))])
 refine T.draw d.impls.length rfl T.ok.il.1 (gA hm rfl) λ y hy σ1 T1=>?_
 have hc:=T.ok.i _ (KF hy)
 have he:=JZ hy
 generalize d.impls[y]=c at hc he
 apply uS (vs:=[c.b.v,.str (ai c.a),c.r.v]) (by dsimp! [T1.dq,bp (T1.g 8 rfl) he]) rfl
 refine ay (pT rfl) (ck ?_)
 refine T1.draw 3 rfl (by decide) (dR 1 hm rfl) λ z yy σ2 T2=>?_
 by_cases hz:(z:Int)=2
 ·refine EN hz ?_
  apply zd (k:=y) (H5 (cX (pX rfl) (cX (CE (a:=c.a) rfl) (pS rfl)))) (by dsimp! [T2.dq]) (by dsimp!) (T2.g 8 rfl) (by rw [List.length_map];exact hy)
  exact iX 4 rfl (k _ _ ((DT.setAt (f:=Im.v) (i:=8) (y:=y) (a:=⟨c.b,!c.a,c.r⟩) (λ l=>{d with impls:=l}) T2 (by decide) (λ yy=>rfl) (T.ok.i' ⟨hc.1,hc.2⟩)).up (mh m (a:=2) (b:=5) rfl)))
 ·refine vo hz ?_
  apply bR T2.dq rfl
  apply bR (T2.g 6 rfl) rfl
  refine T2.next (z:=5) Mr.v_inj (λ a=>bu 4 8 _ (by decide) (kD a)) (dR 2 hm rfl) rfl T.ok.m1.2.1 hc.2 λ b hb σ3 T3=>?_
  apply bR T3.dq rfl
  apply sk (T3.g 8 rfl) (by rw [List.length_map];exact hy)
  exact iX 4 rfl (k _ _ ((DT.setAt (f:=Im.v) (i:=8) (y:=y) (a:=⟨c.b,c.a,b⟩) (λ l=>{d with impls:=l}) T3 (by decide) (λ yy=>rfl) (T.ok.i' ⟨hc.1,hb⟩)).up (mh m (a:=3) (b:=5) rfl)))
theorem t5 {way:Int} {i y:Nat} {l:List Pr} {c:Pr} {l':List Y} {K:Option V→ax→St→Prop} (up:List Pr→De) (T:DT σ0 w q m (up l) σ) (hm:m<75000) (hi:i<12) (hg:((up l).cs q)[i]? =some (.list aa (l.map Pr.v))) (hu:∀l',((up l).cs q).set i (.list aa (l'.map Pr.v))=(up l').cs q) (hy:y<l.length) (m0 m1:List Mr) (e0:(up l).m0=m0) (e1:(up l).m1=m1) (hc:c.ok m0 m1) (ok:∀a:Pr,a.ok m0 m1→(up (l.set y a)).ok)
  (k:∀d' σ',DT σ0 w q (m+3) d' σ'→ah (aw (dd+4)) l' (Rt w q way [some (.int (y:Nat)),none,none,none,none,none,none,some (.ref (q+i)),some (.str "p"),some (.str c.tm),some c.x.v,some c.y.v]) σ' K):
  ah (aw (dd+4)) (.ite (.call "_law_draw" [.loc 0,.int 2]) [.set (.sub (.loc 10) (.loc 3)) (.tup [.loc 11,.loc 12,.call "_law_other" [.loc 0,.loc 1,.loc 13],.loc 14])] [.set (.sub (.loc 10) (.loc 3)) (.tup [.loc 11,.loc 12,.loc 13,.call "_law_other" [.loc 0,.loc 1,.loc 14]])]::l')
   (Rt w q way [some (.int (y:Nat)),none,none,none,none,none,none,some (.ref (q+i)),some (.str "p"),some (.str c.tm),some c.x.v,some c.y.v]) σ K:=by
 subst e0;subst e1
 refine ck (T.draw 2 rfl (by decide) (gA hm rfl) λ z yy σ2 T2=>?_)
 by_cases hz:(z:Int)=0
 ·refine pE hz (T2.other (dR 1 hm rfl) hc.2.2 λ o' ho' σ3 T3=>?_)
  apply sk (T3.g i hg) (by rw [List.length_map];exact hy)
  exact k _ _ (DT.setAt (f:=Pr.v) (y:=y) (a:=⟨c.tm,c.x,o'⟩) up T3 hi hu (ok _ ⟨hc.1,hc.2.1,ho'⟩))
 ·refine pD hz (T2.other (dR 1 hm rfl) hc.2.1 λ o' ho' σ3 T3=>?_)
  apply sk (T3.g i hg) (by rw [List.length_map];exact hy)
  exact k _ _ (DT.setAt (f:=Pr.v) (y:=y) (a:=⟨c.tm,o',c.y⟩) up T3 hi hu (ok _ ⟨hc.1,ho',hc.2.2⟩))
theorem Bq (T:DT σ0 w q m d σ) (hm:m<70000) (k:TQ σ0 w q m Q):aw (dd+5) (.g "_law_turn") [.ref w,.ref q,.int 9] σ Q:=by
 refine go aW rfl (iX 4 rfl (aU (pT rfl) ?_))
 refine br (v:=.ref (q+9)) (λ Q q=>?_) ?_
 ·apply dO rfl
  apply bR T.dq rfl
  exact q
 apply dj (pS rfl)
 refine T.draw 2 rfl (by decide) (gA hm rfl) λ y hy σ1 T1=>?_
 have hy:y<d.props.length:=by rw [T.ok.pl];exact hy
 have hc:=T.ok.p _ (KF hy)
 have he:=JZ hy
 generalize d.props[y]=c at hc he
 apply uS (vs:=[.str "p",.str c.tm,c.x.v,c.y.v]) (by dsimp! [bp (T1.g 9 rfl) he]) rfl
 exact t5 (way:=9) (λ l=>{d with props:=l}) T1 (dR 1 hm rfl) (by decide) rfl (λ yy=>rfl) hy _ _ rfl rfl hc (λ a ha=>T.ok.p' ha) λ d' σ' T'=>iX 2 rfl (k d' σ' (T'.up (mh m (a:=4) (b:=5) rfl)))
theorem yT (T:DT σ0 w q m d σ) (hm:m<70000) (k:TQ σ0 w q m Q):aw (dd+5) (.g "_law_turn") [.ref w,.ref q,.int 10] σ Q:=by
 refine go aW rfl (iX 4 rfl (aU (pT rfl) ?_))
 refine br (v:=.ref (q+10)) (λ Q q=>?_) ?_
 ·apply dO rfl
  apply bR T.dq rfl
  exact q
 apply dj (pS rfl)
 refine T.draw 2 rfl (by decide) (gA hm rfl) λ y hy σ1 T1=>?_
 have hy:y<d.events.length:=by rw [T.ok.el];exact hy
 have hc:=T.ok.e _ (KF hy)
 have he:=JZ hy
 generalize d.events[y]=c at hc he
 apply uS (vs:=[.str "p",.str c.tm,c.x.v,c.y.v]) (by dsimp! [bp (T1.g 10 rfl) he]) rfl
 exact t5 (way:=10) (λ l=>{d with events:=l}) T1 (dR 1 hm rfl) (by decide) rfl (λ yy=>rfl) hy _ _ rfl rfl hc (λ a ha=>T.ok.e' ha) λ d' σ' T'=>iX 2 rfl (k d' σ' (T'.up (mh m (a:=4) (b:=5) rfl)))
theorem yS (T:DT σ0 w q m d σ) (hm:m<70000) (k:TQ σ0 w q m Q):aw (dd+5) (.g "_law_turn") [.ref w,.ref q,.int 11] σ Q:=by
 refine go aW rfl (iX 5 rfl (aU (pT rfl) ?_))
 apply dj (pS rfl)
 refine T.draw 2 rfl (by decide) (gA hm rfl) λ y hy σ1 T1=>?_
 obtain ⟨t,rfl⟩:=kE hy
 apply bR T1.dq rfl
 apply bO (T1.g 11 rfl) (mY t)
 cases t
 ·refine T1.other (dR 1 hm rfl) T.ok.k0 λ o' ho' σ2 T2=>?_
  apply bR T2.dq rfl
  apply sk (k:=0) (T2.g 11 rfl) (show 0<2 by decide)
  exact iX 1 rfl (k {d with k0:=o'} _ ((T2.put (i:=11) (d':={d with k0:=o'}) (by decide) rfl ⟨T.ok.f0,T.ok.f1,T.ok.m0,T.ok.m1,T.ok.cl,T.ok.c,T.ok.il,T.ok.i,T.ok.pl,T.ok.p,T.ok.el,T.ok.e,T.ok.h,ho',T.ok.k1⟩).up (mh m (a:=3) (b:=5) rfl)))
 ·refine T1.other (dR 1 hm rfl) T.ok.k1 λ o' ho' σ2 T2=>?_
  apply bR T2.dq rfl
  apply sk (k:=1) (T2.g 11 rfl) (show 1<2 by decide)
  exact iX 1 rfl (k {d with k1:=o'} _ ((T2.put (i:=11) (d':={d with k1:=o'}) (by decide) rfl ⟨T.ok.f0,T.ok.f1,T.ok.m0,T.ok.m1,T.ok.cl,T.ok.c,T.ok.il,T.ok.i,T.ok.pl,T.ok.p,T.ok.el,T.ok.e,T.ok.h,T.ok.k0,ho'⟩).up (mh m (a:=3) (b:=5) rfl)))
theorem yR (T:DT σ0 w q m d σ) (hm:m<70000) (k:TQ σ0 w q m Q):aw (dd+5) (.g "_law_turn") [.ref w,.ref q,.int 12] σ Q:=by
 refine go aW rfl (iX 6 rfl (aU (pT rfl) ?_))
 apply bR T.dq rfl
 refine T.other (gA hm rfl) T.ok.h λ o' ho' σ2 T2=>?_
 apply sn T2.dq rfl (show 8<aN by decide)
 exact k {d with held:=o'} _ ((T2.put (i:=0) (d':={d with held:=o'}) (by decide) rfl ⟨T.ok.f0,T.ok.f1,T.ok.m0,T.ok.m1,T.ok.cl,T.ok.c,T.ok.il,T.ok.i,T.ok.pl,T.ok.p,T.ok.el,T.ok.e,ho',T.ok.k0,T.ok.k1⟩).up (mh m (a:=2) (b:=5) rfl))
theorem vA {P:Nat→Prop} {m:Nat} (h:∀n,n<m→P n) (p:P m):∀n,n<m+1→P n:=λ n hn=>(Nat.lt_succ_iff_lt_or_eq.mp hn).elim (h n) λ e=>e▸p
theorem Ep {way:Nat} (T:DT σ0 w q m d σ) (hm:m<70000) (hy:way<13) (k:TQ σ0 w q m Q):aw (dd+5) (.g "_law_turn") [.ref w,.ref q,.int way] σ Q:=
 vA (P:=λ n=>aw (dd+5) (.g "_law_turn") [.ref w,.ref q,.int n] σ Q) (vA (vA (vA (vA (vA (vA (vA (vA (vA (vA (vA (vA (λ n h=>absurd h (Nat.not_lt_zero n)) (BA T k)) (Bz T hm k)) (By T hm k)) (Bw T hm k)) (Bv T hm k)) (Bu T hm k)) (Bt T hm k)) (Bs T hm k)) (Br T hm k)) (Bq T hm k)) (yT T hm k)) (yS T hm k)) (yR T hm k) way hy
end
theorem DC.at {σ:St} {q:Nat} {d:De} (D:DC σ q d) (hl:q+12≤σ.len):cg σ ⟨q,q+3,q+6,q+1,q+2,q+4,q+5,q+7,q+8,q+9,q+10,q+11⟩ q (q+12) d:=
 have lt:∀i,i<12→q≤q+i∧q+i<q+12:=λ i h=>⟨JU q i,J0 h q⟩
 ⟨⟨_,D.B.g 0 rfl,show 8≤20 by decide,rfl,rfl,rfl,rfl,rfl,rfl,rfl,rfl⟩,D.B.g 3 rfl,D.B.g 6 rfl,D.B.g 1 rfl,D.B.g 2 rfl,D.B.g 4 rfl,D.B.g 5 rfl,D.B.g 7 rfl,D.B.g 8 rfl,D.B.g 9 rfl,D.B.g 10 rfl,D.B.g 11 rfl,
  ⟨lt 0 (by decide),lt 3 (by decide),lt 6 (by decide),lt 1 (by decide),lt 2 (by decide),lt 4 (by decide),lt 5 (by decide),lt 7 (by decide),lt 8 (by decide),lt 9 (by decide),lt 10 (by decide),lt 11 (by decide)⟩,hl⟩
theorem BK {σ:St} {r n:Nat} {t:Tg} {l:List V} {Q:V→St→Prop} (hn:σ.len=n) (g:σ.get r=some (.list t l)) (q:Q (.ref n) (σ.new (.list aa l))):iW (.ref r) σ Q:=by
 subst hn;exact H7 g rfl q
theorem GL {C:ak} {ρ:ax} {σ σ':St} {n:Nat} {xs:List X} {vs:List V} {Q:V→St→Prop} (h:∀Q,Q vs σ'→aI C xs ρ σ Q) (hn:σ'.len=n) (q:Q (.ref n) (σ'.new (.list aa vs))):aH C (.list xs) ρ σ Q:=by
 subst hn;exact h _ q
structure Gr (σ0:St) (b:Nat) (os:List Mine.O) (σ:St):Prop where
 B:c7 σ b os
 len:σ.len=b+os.length
 fr:∀k,k<b→σ.get k=σ0.get k
section
variable {σ0 σ:St} {b:Nat} {os:List Mine.O}
theorem Gr.new {o:Mine.O} (I:Gr σ0 b os σ):Gr σ0 b (os++[o]) (σ.new o):=
 ⟨I.B.snoc I.len,by rw [aD,I.len,List.length_append];rfl,λ k h=>(aP (by rw [I.len];exact JS h (JU b _))).trans (I.fr k h)⟩
theorem Gr.put {i:Nat} {o:Mine.O} (I:Gr σ0 b os σ) (h:i<os.length):Gr σ0 b (os.set i o) (σ.put (b+i) o):=
 ⟨I.B.put h,by rw [aj,I.len,List.length_set],λ k h=>(aR (J5 (JS h (JU b i)))).trans (I.fr k h)⟩
theorem Gr.old {k:Nat} {o:Mine.O} (I:Gr σ0 b os σ) (h:σ0.len=b) (g:σ0.get k=some o):σ.get k=some o:=(I.fr k (h▸ac g)).trans g
theorem yd {C:ak} {w q0 r:Nat} {nm:String} {x4:Option V} {l:List V} {al es:List (V×V)} {t:Tg} {K:Option V→ax→St→Prop} (I:Gr σ0 b os σ) (h0:σ0.len=b) (hq:σ0.get q0=some (.dict aa 1 al)) (he:ae al (.str nm)=some (.ref r)) (hr:σ0.get r=some (.list t l)) (hd:os[0]? =some (.dict aa 1 es)) (hl:es.length<100) {n:Nat} (hn:b+os.length=n)
  (k:∀σ',Gr σ0 b ((os++[Mine.O.list aa l]).set 0 (.dict aa 1 (bz es (.str nm) (.ref n)))) σ'→K none [some (.ref w),some (.ref q0),some (.ref b),some (.str nm),x4] σ'):
  ah C [.set (.sub (.loc 2) (.loc 3)) (.slAll (.sub (.loc 1) (.loc 3)))] [some (.ref w),some (.ref q0),some (.ref b),some (.str nm),x4] σ K:=by
 apply dP (I.old h0 hq) he
 apply BK (I.len.trans hn) (I.old h0 hr)
 have I1:=I.new (o:=.list aa l)
 apply sn (I1.B.g 0 (dk hd)) rfl (JY hl (by decide))
 exact k _ (I1.put (by rw [List.length_append];exact Nat.succ_pos _))
theorem Hg {C:ak} {w q0 r r0 r1:Nat} {nm:String} {x4:Option V} {l0 l1:List V} {al es:List (V×V)} {K:Option V→ax→St→Prop} (I:Gr σ0 b os σ) (h0:σ0.len=b) (hq:σ0.get q0=some (.dict aa 1 al)) (he:ae al (.str nm)=some (.ref r)) (hr:σ0.get r=some (.list aa [.ref r0,.ref r1])) (g0:σ0.get r0=some (.list aa l0)) (g1:σ0.get r1=some (.list aa l1)) (hd:os[0]? =some (.dict aa 1 es)) (hl:es.length<100) {n:Nat} (hn:b+os.length=n)
  (k:∀σ',Gr σ0 b ((os++[Mine.O.list aa l0]++[Mine.O.list aa l1]++[Mine.O.list aa [.ref n,.ref (n+1)]]).set 0 (.dict aa 1 (bz es (.str nm) (.ref (n+2))))) σ'→K none [some (.ref w),some (.ref q0),some (.ref b),some (.str nm),x4] σ'):
  ah C [.set (.sub (.loc 2) (.loc 3)) (.list [.slAll (.sub (.sub (.loc 1) (.loc 3)) (.int 0)),.slAll (.sub (.sub (.loc 1) (.loc 3)) (.int 1))])] [some (.ref w),some (.ref q0),some (.ref b),some (.str nm),x4] σ K:=by
 have I1:=I.new (o:=.list aa l0)
 have I2:=I1.new (o:=.list aa l1)
 have e0:=I.len.trans hn
 apply bq
 refine GL (n:=n+2) (vs:=[.ref n,.ref (n+1)]) (λ Q q=>?_) (eb (o:=.list aa l1) (eb (o:=.list aa l0) e0)) ?_
 ·apply dP (I.old h0 hq) he
  apply bR (I.old h0 hr) rfl
  apply BK e0 (I.old h0 g0)
  apply dP (I1.old h0 hq) he
  apply bR (I1.old h0 hr) rfl
  apply BK (eb e0) (I1.old h0 g1)
  exact q
 have I3:=I2.new (o:=.list aa [.ref n,.ref (n+1)])
 apply sn (I3.B.g 0 (dk (dk (dk hd)))) rfl (JY hl (by decide))
 exact k _ (I3.put (by rw [List.length_append];exact Nat.succ_pos _))
end
theorem Hp:∀t:Bool,bn t≤1
 |false=>by decide
 |true=>by decide
theorem zq {r:Nat} (h:r<3):∃t,c3 [.int 1,.int 2,.int 1] (r:Int)=some (.int (1+bn t:Nat)):=match r,h with
 |0,_=>⟨false,rfl⟩
 |1,_=>⟨true,rfl⟩
 |2,_=>⟨false,rfl⟩
theorem nG {d w m lo hi:Nat} {R:Rf} {de:De} {σ:St} {Q:V→St→Prop} (D:cg σ R lo hi de) (h:W σ w m) (hm:m<60000) (hw:w<lo) (ok:de.ok)
  (k:∀de' σ',de'.ok→DC σ' σ.len de'→σ'.len=σ.len+12→W σ' w (m+20)→(∀k,k<σ.len→k≠w→σ'.get k=σ.get k)→Q (.ref σ.len) σ'):aw (d+6) (.g "_law_changed") [.ref w,.ref R.q] σ Q:=by
 obtain ⟨al,q1,_,q3,q4,q5,q6,q7,q8,q9,q10⟩:=D.ex
 have hwl:=h.lt
 obtain ⟨b,hb⟩:∃b,σ.len=b:=⟨_,rfl⟩
 rw [hb] at k
 refine go mG rfl ?_
 refine ze (n:=b) (vs:=[de.held.v]) (λ Q q=>?_) hb ?_
 ·apply dP q1 q9
  exact q
 have I0:Gr σ b [] σ:=⟨⟨λ yy yy h=>nomatch h⟩,hb,λ yy yy=>rfl⟩
 have I1:=I0.new (o:=.dict aa 1 [(.str "held",de.held.v)])
 refine dl (items:=[.str "fields",.str "methods"]) (guard:=λ yy=>True) (λ Q q=>pS rfl _ q) ?_
 refine ⟨trivial,Hg (n:=b+1) I1 hb q1 q3 D.f D.f0 D.f1 rfl (show 1<100 by decide) rfl λ s2 I2=>?_⟩
 have I2:Gr σ b ((de.cs b).take 4|>.set 0 (.dict aa 1 ((de.ces b).take 2))) s2:=I2
 refine ⟨trivial,Hg (n:=b+4) I2 hb q1 q4 D.m D.m0 D.m1 rfl (show 2<100 by decide) rfl λ s3 I3=>?_⟩
 have I3:Gr σ b ((de.cs b).take 7|>.set 0 (.dict aa 1 ((de.ces b).take 3))) s3:=I3
 refine ⟨trivial,?_⟩
 refine dl (items:=[.str "code",.str "impls",.str "props",.str "events",.str "kept"]) (guard:=λ yy=>True) (λ Q q=>pS rfl _ q) ?_
 refine ⟨trivial,yd (n:=b+7) I3 hb q1 q5 D.c rfl (show 3<100 by decide) rfl λ s4 I4=>?_⟩
 have I4:Gr σ b ((de.cs b).take 8|>.set 0 (.dict aa 1 ((de.ces b).take 4))) s4:=I4
 refine ⟨trivial,yd (n:=b+8) I4 hb q1 q6 D.i rfl (show 4<100 by decide) rfl λ s5 I5=>?_⟩
 have I5:Gr σ b ((de.cs b).take 9|>.set 0 (.dict aa 1 ((de.ces b).take 5))) s5:=I5
 refine ⟨trivial,yd (n:=b+9) I5 hb q1 q7 D.p rfl (show 5<100 by decide) rfl λ s6 I6=>?_⟩
 have I6:Gr σ b ((de.cs b).take 10|>.set 0 (.dict aa 1 ((de.ces b).take 6))) s6:=I6
 refine ⟨trivial,yd (n:=b+10) I6 hb q1 q8 D.e rfl (show 6<100 by decide) rfl λ s7 I7=>?_⟩
 have I7:Gr σ b ((de.cs b).take 11|>.set 0 (.dict aa 1 ((de.ces b).take 7))) s7:=I7
 refine ⟨trivial,yd (n:=b+11) I7 hb q1 q10 D.k rfl (show 7<100 by decide) rfl λ s8 I8=>?_⟩
 have I8:Gr σ b (de.cs b) s8:=I8
 refine ⟨trivial,?_⟩
 have hw':w<b:=hb▸hwl
 have W8:W s8 w m:=h.frame (by rw [I8.len,hb];exact JU _ _) λ n hn=>I8.fr n (JV hn hw')
 refine gU ?_
 refine iA 3 W8 rfl (by decide) (gA hm rfl) λ r hr s9 W9 S9=>?_
 have T9:DT s9 w b (m+1) de s9:=⟨I8.B.sw hw' S9,W9,hw',ok,rfl,λ yy yy yy=>rfl⟩
 have l9:s9.len=b+12:=S9.len.trans I8.len
 obtain ⟨t,e⟩:=zq hr
 apply dO e
 refine ⟨Kp (1+bn t),KP.mpr (by cases t<;>decide),?_⟩
 refine dE (λ i ρ s=>∀P:Prop,(∀d' x4,DT s9 w b (m+1+6*i) d' s→ρ=[some (.ref w),some (.ref R.q),some (.ref b),some (.str "kept"),x4]→P)→P)
  (λ ρ s i=>i _ λ d' x4 T' e=>⟨trivial,?_⟩) (λ i hi ρ s i'=>i' _ λ d' x4 T' e=>⟨trivial,λ K' hK=>?_⟩) λ P k=>k de none T9 rfl
 ·subst e
  refine bj (pX rfl) (k d' s T'.ok ⟨T'.B⟩ (T'.len.trans l9) (T'.W.mono (JT (JW (KJ 6 (JW (Hp t) 1)) (m+1)) (mh m (a:=13) (b:=20) rfl))) λ k h1 h2=>?_)
  exact (T'.fr k h2 (.inl h1)).trans ((S9.get k h2).trans (I8.fr k h1))
 ·subst e
  have hi2:i<2:=JS hi (by cases t<;>decide)
  refine T'.draw 13 rfl (by decide) (HO hm (Kb hi2) rfl) λ r hr s10 T10=>?_
  exact Ep T10 (Kz (HO (e:=69999) hm (Kb hi2) rfl)) hr λ d2 s11 T11=>hK _ _ λ P k=>k d2 _ T11 rfl
noncomputable def kH {α:Type}:List α→List α→List α
 |acc,[]=>acc
 |acc,a::l=>kH (if a∈acc then acc else acc++[a]) l
noncomputable def cZ {α:Type} (l:List α):List α:=kH [] l
theorem yl {α:Type} {f:α→V} (hf:∀{a b},f a=f b→a=b) (hp:∀a,pu 8 (f a)=true) {d z:Nat} {xs:List α} {σ:St} {Q:V→St→Prop} (hz:σ.get z=some (.list aa (xs.map f))) (hl:xs.length<1000)
  (k:∀σ',σ'.len=σ.len+1→σ'.get σ.len=some (.list aa ((cZ xs).map f))→(∀k,k<σ.len→σ'.get k=σ.get k)→Q (.ref σ.len) σ'):aw (d+1) (.g "_law_once") [.ref z] σ Q:=by
 have hzl:=ac hz
 refine go tF rfl ?_
 show ah _ (.for_ false [2] (.loc 0) _::_) [some (.ref z),some (.ref σ.len),none] (σ.new (.list aa [])) _
 apply dl (by dsimp! [gu (bT hz)])
 refine fu (λ l ρ s=>∀P:Prop,(∀acc x2,kH acc l=cZ xs→acc.length+l.length<1000→s.len=σ.len+1→s.get σ.len=some (.list aa (acc.map f))→(∀k,k<σ.len→s.get k=σ.get k)→ρ=[some (.ref z),some (.ref σ.len),x2]→P)→P)
  (λ ρ s i=>i _ λ acc x2 h1 h2 ls gs fs e=>⟨(fs z hzl).trans hz,?_⟩) (λ a l ρ s i=>i _ λ acc x2 h1 h2 ls gs fs e=>⟨(fs z hzl).trans hz,λ K hK=>?_⟩)
  λ P k=>k [] none rfl (by rw [List.length_nil,Nat.zero_add];exact hl) (eb rfl) (gY rfl) (λ yy=>aP) rfl
 ·subst e
  exact bj (pX rfl) (k s ls (h1▸gs) fs)
 ·subst e
  have hmem:∀Q:Bool→St→Prop,Q (!decide (a∈acc)) s→fe (aw d) (.cmp .notin (.loc 2) (.loc 1)) [some (.ref z),some (.ref σ.len),some (f a)] s Q:=λ Q q=>by
   apply n9
   refine fq gs (hp a) (aY hp acc) ?_
   rw [show decide (f a∈acc.map f)=decide (a∈acc) from decide_eq_decide.mpr (dX hf)]
   exact q
  have h2':acc.length+(l.length+1)<1000:=h2
  by_cases hm:a∈acc
  ·refine ay (λ Q q=>hmem Q (by rw [decide_eq_true hm];exact q)) ?_
   exact hK _ _ λ P k=>k acc _ ((congrArg (λ x=>kH x l) (if_pos hm).symm).trans h1) (KU h2') ls gs fs rfl
  ·refine aU (λ Q q=>hmem Q (by rw [decide_eq_false hm];exact q)) ?_
   apply cJ (by dsimp!) gs (by dsimp!) (by rw [List.length_map];exact JY (JV (JU _ _) h2') (by decide))
   refine hK _ _ λ P k=>k (acc++[a]) _ ((congrArg (λ x=>kH x l) (if_neg hm).symm).trans h1) (by rw [List.length_append];exact JV (J3 (Ln _ 1 _)) h2') (aj.trans ls) (by rw [List.map_append];exact aX (by rw [ls];exact Kc _)) (λ k hk=>(aR (J5 hk)).trans (fs k hk)) rfl
theorem og {σ:St} {a b:Nat} {l r:List V} {Q:Bool→Prop} (ha:σ.get a=some (.list aa l)) (hb:σ.get b=some (.list aa r)) (pl:pus 18 l=true) (pr:pus 18 r=true) (q:Q (!decide (l=r))):bc .ne σ (.ref a) (.ref b) Q:=by
 have h1:=cY σ 18 l pl
 have h2:=cY σ 18 r pr
 unfold bc
 show sb σ (.ref a) (.ref b) λ r=>Q (!r)
 unfold sb
 refine ⟨_,_,.list ha h1.1,.list hb h2.1,JT (Kj h1.2) (by decide),JT (Kj h2.2) (by decide),decide (l=r),?_,q⟩
 rw [decide_eq_true_iff]
 exact ⟨λ e=>e▸rfl,λ e=>kh _ _ _ _ pl pr (D.list.inj e)⟩
theorem ya {d e:List D} {n:Nat} (h:D.depths d≤n) (k:D.depths e≤n):D.depth (.list [.list d,.list e])≤n+2:=
 Kj (Nat.max_le.mpr ⟨Kj h,Nat.max_le.mpr ⟨Kj k,Kw _⟩⟩)
theorem qV {σ:St} {a b a0 a1 b0 b1:Nat} {l0 l1 r0 r1:List V} {Q:Bool→Prop} (ha:σ.get a=some (.list aa [.ref a0,.ref a1])) (hb:σ.get b=some (.list aa [.ref b0,.ref b1]))
  (ha0:σ.get a0=some (.list aa l0)) (ha1:σ.get a1=some (.list aa l1)) (hb0:σ.get b0=some (.list aa r0)) (hb1:σ.get b1=some (.list aa r1))
  (pl0:pus 17 l0=true) (pl1:pus 17 l1=true) (pr0:pus 17 r0=true) (pr1:pus 17 r1=true) (q:Q (!decide (l0=r0∧l1=r1))):bc .ne σ (.ref a) (.ref b) Q:=by
 have h1:=cY σ 17 l0 pl0
 have h2:=cY σ 17 l1 pl1
 have h3:=cY σ 17 r0 pr0
 have h4:=cY σ 17 r1 pr1
 unfold bc
 show sb σ (.ref a) (.ref b) λ r=>Q (!r)
 unfold sb
 refine ⟨_,_,.list ha (.cons (.list ha0 h1.1) (.cons (.list ha1 h2.1) .nil)),.list hb (.cons (.list hb0 h3.1) (.cons (.list hb1 h4.1) .nil)),JT (ya h1.2 h2.2) (by decide),JT (ya h3.2 h4.2) (by decide),decide (l0=r0∧l1=r1),?_,q⟩
 rw [decide_eq_true_iff]
 refine ⟨λ e=>e.1▸e.2▸rfl,λ e=>?_⟩
 injection e with e
 injection e with e0 e
 injection e with e1
 exact ⟨kh _ _ _ _ pl0 pr0 (D.list.inj e0),kh _ _ _ _ pl1 pr1 (D.list.inj e1)⟩
theorem iZ (o:cM):pu 5 o.v=true:=J6.mpr ⟨kD o.r,rfl⟩
theorem Ga (c:Cd):pu 5 c.v=true:=by
 cases c with
 |f t a r=>rfl
 |m t a r=>exact J6.mpr ⟨kD r,rfl⟩
theorem F9 (c:Im):pu 6 c.v=true:=J6.mpr ⟨iZ c.b,J6.mpr ⟨rfl,J6.mpr ⟨bu 4 5 _ (by decide) (kD c.r),rfl⟩⟩⟩
theorem Aw (c:Pr):pu 6 c.v=true:=J6.mpr ⟨iZ c.x,J6.mpr ⟨iZ c.y,rfl⟩⟩
noncomputable def De.alike (c d:De):Prop:=(c.f0=d.f0∧c.f1=d.f1)∧(c.m0=d.m0∧c.m1=d.m1)∧c.code=d.code∧c.held=d.held∧(c.k0=d.k0∧c.k1=d.k1)∧cZ c.impls=cZ d.impls∧cZ c.props=cZ d.props∧cZ c.events=cZ d.events
noncomputable instance (c d:De):Decidable (De.alike c d):=Classical.propDecidable _
theorem gr {α:Type} {f:α→V} (hf:∀{a b},f a=f b→a=b) {l r:List α}:decide (l.map f=r.map f)=decide (l=r):=
 Lf.mpr ⟨λ e=>uf (λ yy yy h=>hf h) e,λ e=>by rw [e]⟩
theorem Ht {C:ak} {p:Prop} [Decidable p] {σ:St} {q q':Nat} {nm:String} {u v:V} {al bl:List (V×V)} {K:Option V→ax→St→Prop} (q1:σ.get q=some (.dict aa 1 al)) (p1:σ.get q'=some (.dict aa 1 bl)) (hu:ae al (.str nm)=some u) (hv:ae bl (.str nm)=some v)
  (ne:∀Q:Bool→Prop,Q (!decide p)→bc .ne σ u v Q) (no:¬p→K (some (.bool false)) [some (.ref q),some (.ref q'),some (.str nm)] σ) (bM:p→K none [some (.ref q),some (.ref q'),some (.str nm)] σ):
  ah C [.ite (.cmp .ne (.sub (.loc 0) (.loc 2)) (.sub (.loc 1) (.loc 2))) [.ret (.tt false)] []] [some (.ref q),some (.ref q'),some (.str nm)] σ K:=by
 have t:∀Q:Bool→St→Prop,Q (!decide p) σ→fe C (.cmp .ne (.sub (.loc 0) (.loc 2)) (.sub (.loc 1) (.loc 2))) [some (.ref q),some (.ref q'),some (.str nm)] σ Q:=λ Q h=>by
  apply dP q1 hu
  apply dP p1 hv
  exact ne _ h
 by_cases h:p
 ·exact ay (λ Q k=>t Q (by rw [decide_eq_true h];exact k)) (bM h)
 ·exact aU (λ Q k=>t Q (by rw [decide_eq_false h];exact k)) (bj (pX rfl) (no h))
theorem EE {α:Type} {f:α→V} (hf:∀{a b},f a=f b→a=b) (hp:∀a,pu 6 (f a)=true) {d:Nat} {σ:St} {q q' r r':Nat} {nm:String} {xs ys:List α} {al bl:List (V×V)} {K:Option V→ax→St→Prop} (q1:σ.get q=some (.dict aa 1 al)) (p1:σ.get q'=some (.dict aa 1 bl)) (hu:ae al (.str nm)=some (.ref r)) (hv:ae bl (.str nm)=some (.ref r'))
  (g:σ.get r=some (.list aa (xs.map f))) (g':σ.get r'=some (.list aa (ys.map f))) (hx:xs.length<1000) (hy:ys.length<1000)
  (no:∀σ',¬cZ xs=cZ ys→σ.len≤σ'.len→(∀k,k<σ.len→σ'.get k=σ.get k)→K (some (.bool false)) [some (.ref q),some (.ref q'),some (.str nm)] σ') (bM:∀σ',cZ xs=cZ ys→σ.len≤σ'.len→(∀k,k<σ.len→σ'.get k=σ.get k)→K none [some (.ref q),some (.ref q'),some (.str nm)] σ'):
  ah (aw (d+1)) [.ite (.cmp .ne (.call "_law_once" [.sub (.loc 0) (.loc 2)]) (.call "_law_once" [.sub (.loc 1) (.loc 2)])) [.ret (.tt false)] []] [some (.ref q),some (.ref q'),some (.str nm)] σ K:=by
 refine ck ?_
 apply dP q1 hu
 refine yl hf (λ a=>bu 6 8 _ (by decide) (hp a)) g hx λ s1 l1 g1 f1=>?_
 apply dP ((f1 _ (ac p1)).trans p1) hv
 refine yl hf (λ a=>bu 6 8 _ (by decide) (hp a)) ((f1 _ (ac g')).trans g') hy λ s2 l2 g2 f2=>?_
 have P:∀l:List α,pus 18 (l.map f)=true:=aY λ a=>bu 6 18 _ (by decide) (hp a)
 refine og ((f2 _ (ac g1)).trans g1) g2 (P _) (P _) ?_
 rw [gr hf]
 have L:σ.len≤s2.len:=by rw [l2,l1];exact JU _ 2
 have F:∀k,k<σ.len→s2.get k=σ.get k:=λ k h=>(f2 k (l1▸Kr h)).trans (f1 k h)
 by_cases h:cZ xs=cZ ys
 ·rw [decide_eq_true h]
  exact bM s2 h L F
 ·rw [decide_eq_false h]
  exact bj (pX rfl) (no s2 h L F)
theorem zX {d lo hi lo' hi':Nat} {R R':Rf} {c de:De} {σ:St} {Q:V→St→Prop} (C:cg σ R lo hi c) (D:cg σ R' lo' hi' de) (okc:c.ok) (okd:de.ok)
  (k:∀σ',σ.len≤σ'.len→(∀k,k<σ.len→σ'.get k=σ.get k)→Q (.bool (decide (De.alike c de))) σ'):aw (d+2) (.g "_law_alike") [.ref R.q,.ref R'.q] σ Q:=by
 obtain ⟨al,q1,q2,q3,q4,q5,q6,q7,q8,q9,q10⟩:=C.ex
 obtain ⟨bl,p1,p2,p3,p4,p5,p6,p7,p8,p9,p10⟩:=D.ex
 have no:∀σ',¬De.alike c de→σ.len≤σ'.len→(∀k,k<σ.len→σ'.get k=σ.get k)→Q (.bool false) σ':=λ σ' h hl hf=>K3 h▸k σ' hl hf
 have no0:¬De.alike c de→Q (.bool false) σ:=λ h=>no σ h (Kd _) λ yy yy=>rfl
 have F:∀l:List Fr,pus 17 (l.map Fr.v)=true:=aY λ a=>bu 8 17 _ (by decide) (wH a)
 have M:∀l:List Mr,pus 17 (l.map Mr.v)=true:=aY λ a=>bu 4 17 _ (by decide) (kD a)
 have CD:∀l:List Cd,pus 18 (l.map Cd.v)=true:=aY λ a=>bu 5 18 _ (by decide) (Ga a)
 have ON:∀l:List cM,pus 18 (l.map cM.v)=true:=aY λ a=>bu 5 18 _ (by decide) (iZ a)
 refine go rQ rfl ?_
 refine dl (items:=[.str "fields",.str "methods",.str "code",.str "held",.str "kept"]) (guard:=λ yy=>True) (λ Q q=>pS rfl _ q) ?_
 refine ⟨trivial,Ht (p:=c.f0=de.f0∧c.f1=de.f1) q1 p1 q3 p3 (λ Q q=>qV C.f D.f C.f0 C.f1 D.f0 D.f1 (F _) (F _) (F _) (F _) (by rw [Bool.decide_and,gr Fr.v_inj,gr Fr.v_inj,←Bool.decide_and];exact q)) (λ e=>no0 λ h=>e h.1) λ e1=>?_⟩
 refine ⟨trivial,Ht (p:=c.m0=de.m0∧c.m1=de.m1) q1 p1 q4 p4 (λ Q q=>qV C.m D.m C.m0 C.m1 D.m0 D.m1 (M _) (M _) (M _) (M _) (by rw [Bool.decide_and,gr Mr.v_inj,gr Mr.v_inj,←Bool.decide_and];exact q)) (λ e=>no0 λ h=>e h.2.1) λ e2=>?_⟩
 refine ⟨trivial,Ht (p:=c.code=de.code) q1 p1 q5 p5 (λ Q q=>og C.c D.c (CD _) (CD _) (by rw [gr Cd.v_inj];exact q)) (λ e=>no0 λ h=>e h.2.2.1) λ e3=>?_⟩
 refine ⟨trivial,Ht (p:=c.held=de.held) q1 p1 q9 p9 (λ Q q=>ua (bu 5 20 _ (by decide) (iZ _)) (bu 5 20 _ (by decide) (iZ _)) (by rw [show decide (c.held.v=de.held.v)=decide (c.held=de.held) from decide_eq_decide.mpr ⟨cM.v_inj,λ e=>e▸rfl⟩];exact q)) (λ e=>no0 λ h=>e h.2.2.2.1) λ e4=>?_⟩
 refine ⟨trivial,Ht (p:=c.k0=de.k0∧c.k1=de.k1) q1 p1 q10 p10 (λ Q q=>og C.k D.k (ON [c.k0,c.k1]) (ON [de.k0,de.k1]) (by rw [show decide ([c.k0.v,c.k1.v]=[de.k0.v,de.k1.v])=decide (c.k0=de.k0∧c.k1=de.k1) from decide_eq_decide.mpr ⟨λ e=>by injection e with a b;injection b with b;exact ⟨cM.v_inj a,cM.v_inj b⟩,λ e=>e.1▸e.2▸rfl⟩];exact q)) (λ e=>no0 λ h=>e h.2.2.2.2.1) λ e5=>⟨trivial,?_⟩⟩
 have lt:∀{n m:Nat},n≤m→m<1000→n<1000:=JV
 refine dl (items:=[.str "impls",.str "props",.str "events"]) (guard:=λ yy=>True) (λ Q q=>pS rfl _ q) ?_
 refine ⟨trivial,EE Im.v_inj F9 q1 p1 q6 p6 C.i D.i (lt okc.il.2 (by decide)) (lt okd.il.2 (by decide)) (λ s e l f=>no s (λ h=>e h.2.2.2.2.2.1) l f) λ s2 e6 l2 f2=>?_⟩
 have g:∀{s:St} {k:Nat} {o:Mine.O},(∀k,k<σ.len→s.get k=σ.get k)→σ.get k=some o→s.get k=some o:=λ f h=>(f _ (ac h)).trans h
 refine ⟨trivial,EE Pr.v_inj Aw (g f2 q1) (g f2 p1) q7 p7 (g f2 C.p) (g f2 D.p) (lt (J3 okc.pl) (by decide)) (lt (J3 okd.pl) (by decide)) (λ s e l f=>no s (λ h=>e h.2.2.2.2.2.2.1) (JT l2 l) λ k h=>(f k (JS h l2)).trans (f2 k h)) λ s3 e7 l3 f3=>?_⟩
 have l3:=JT l2 l3
 have f3:∀k,k<σ.len→s3.get k=σ.get k:=λ k h=>(f3 k (JS h l2)).trans (f2 k h)
 refine ⟨trivial,EE Pr.v_inj Aw (g f3 q1) (g f3 p1) q8 p8 (g f3 C.e) (g f3 D.e) (lt (J3 okc.el) (by decide)) (lt (J3 okd.el) (by decide)) (λ s e l f=>no s (λ h=>e h.2.2.2.2.2.2.2) (JT l3 l) λ k h=>(f k (JS h l3)).trans (f3 k h)) λ s4 e8 l4 f4=>⟨trivial,bj (pX rfl) ?_⟩⟩
 have:=k s4 (JT l3 l4) λ k h=>(f4 k (JS h l3)).trans (f3 k h)
 rwa [KZ ⟨e1,e2,e3,e4,e5,e6,e7,e8⟩] at this
noncomputable def xI (x:X) (ρ:ax):Option Mine.O:=match x with
 | .list xs=>(pZ 20 xs ρ).map λ vs=>.list aa vs
 | .dict kd _ xs=>if xs.isEmpty then some (.dict aa kd []) else none
 |_=>none
theorem kX {C:ak} {x:X} {ρ:ax} {σ:St} {o:Mine.O} (h:xI x ρ=some o):∀Q,Q (.ref σ.len) (σ.new o)→aH C x ρ σ Q:=by
 cases x with
 |list xs=>
  obtain ⟨vs,e,rfl⟩:=Ck h
  exact λ Q q=>pS e (λ vs σ1=>Q (.ref σ1.len) (σ1.new (.list aa vs))) q
 |dict kd ks xs=>
  cases xs with
  |nil=>
   cases h
   intro Q q
   show Q (.ref σ.len) (σ.new (.dict aa kd ((ks.map V.str).zip [])))
   rw [List.zip_nil_right]
   exact q
  |cons _ _=>cases h
 |_=>cases h
noncomputable def Cw (x:X) (ρ:ax) (b:Nat) (os:List Mine.O):Option (V×List Mine.O):=
 ((xI x ρ).map λ o=>(V.ref (b+os.length),os++[o])).or ((qc 20 x ρ).map λ v=>(v,os))
theorem zL {C:ak} {x:X} {ρ:ax} {σ0 σ:St} {b:Nat} {os os':List Mine.O} {v:V} (I:Gr σ0 b os σ) (h:Cw x ρ b os=some (v,os')):∃σ',Gr σ0 b os' σ'∧∀Q,Q v σ'→aH C x ρ σ Q:=by
 unfold Cw at h
 cases e:xI x ρ with
 |some o=>
  rw [e] at h
  cases h
  exact ⟨_,I.new,λ Q q=>kX e Q (I.len.symm▸q)⟩
 |none=>
  rw [e] at h
  obtain ⟨u,e,h⟩:=Ck h
  cases h
  exact ⟨σ,I,pX e⟩
noncomputable def Cv:Nat→List Y→ax→Nat→List Mine.O→Option (List Mine.O)
 |0,_,_,_,os=>some os
 |n+1,l,ρ,b,os=>match l with
  | .set (.attr (.loc 0) nm) x::l=>(Cw x ρ b os).bind λ p=>p.2.head?.bind λ o=>(yu o nm p.1).bind λ o'=>Cv n l ρ b (p.2.set 0 o')
  |_=>none
theorem dI {C:ak} {ρ:ax} {σ0:St} {b:Nat} {K:Option V→ax→St→Prop} (hρ:bK ρ 0=some (.ref b)):∀(n:Nat) {l:List Y} {os os':List Mine.O} {σ:St},Cv n l ρ b os=some os'→Gr σ0 b os σ→(∀σ',Gr σ0 b os' σ'→ah C (l.drop n) ρ σ' K)→ah C l ρ σ K
 |0,_,_,_,_,h,I,k=>by cases h;exact k _ I
 |n+1,l,os,os',σ,h,I,k=>by
  unfold Cv at h
  split at h
  ·obtain ⟨p,e1,h⟩:=jg h
   obtain ⟨o,e2,h⟩:=jg h
   obtain ⟨o',e3,h⟩:=jg h
   obtain ⟨σ1,I1,ev⟩:=zL (C:=C) I e1
   have g:p.2[0]? =some o:=List.head?_eq_getElem? ▸e2
   refine bq (ev _ ?_)
   show (match bK ρ 0 with|some v=>_|none=>False)
   rw [hρ]
   refine sp (o:=o) (I1.B.g 0 g) e3 ?_
   exact dI hρ n h (I1.put (Ka.mp g).1) k
  ·cases h
noncomputable def Js (p:Nat):List (String×V):=[("rows",.ref (p+2)),("index",.ref (p+3)),("depths",.ref (p+4)),("weights",.ref (p+5)),("opens",.ref (p+6))]
noncomputable def zJ (p i:Nat):List Mine.O:=[.inst aa "KindTable" (Js p),.list aa (((List.range i).map aF.prim).map aF.v),.dict aa 2 (ir ((List.range i).map aF.prim) 0),.list aa (List.replicate i (.int 1)),.list aa (List.replicate i (.int 1)),.list aa (List.replicate i (.int 0))]
theorem xw {p i:Nat}:zJ p (i+1)=[.inst aa "KindTable" (Js p),.list aa (((List.range i).map aF.prim).map aF.v++[(aF.prim i).v]),.dict aa 2 (bz (ir ((List.range i).map aF.prim) 0) (aF.prim i).v (.int i)),.list aa (List.replicate i (.int 1)++[.int 1]),.list aa (List.replicate i (.int 1)++[.int 1]),.list aa (List.replicate i (.int 0)++[.int 0])]:=by
 have hn:aF.prim i∉(List.range i).map aF.prim:=λ h=>by
  obtain ⟨j,hj,e⟩:=KB.mp h
  cases e
  exact absurd (List.mem_range.mp hj) (Lw _)
 have e:=ut (i:=0) hn
 rw [List.length_map,List.length_range,Nat.zero_add] at e
 unfold zJ
 rw [show aF.v (.prim i)=(aF.prim i).v from rfl,show (V.int (i:Nat))=vi i from rfl,e,←List.replicate_succ',←List.replicate_succ',List.range_succ,List.map_append,List.map_append]
 rfl
theorem eZ.of {σ:St} {p:Nat} (hl:p+7≤σ.len) (g:∀i {o},(zJ p 16)[i]? =some o→σ.get (p+(i+1))=some o):eZ σ p ((List.range 16).map aF.prim):=by
 refine ⟨g 0 rfl,hl,⟨List.replicate 16 1,List.replicate 16 1,List.replicate 16 0,g 1 rfl,g 2 rfl,g 3 rfl,g 4 rfl,g 5 rfl,rfl,rfl,rfl,λ i r hr=>?_⟩,λ i hi=>?_,List.Pairwise.map _ (λ a b h e=>h (congrArg (λ r=>lW (tS 1 (aF.v r))) e)) List.nodup_range⟩
 ·have hi:i<16:=(Ka.mp hr).1
  rw [List.getElem?_map,List.getElem?_range hi] at hr
  cases hr
  have g:∀z:Int,(List.replicate 16 z)[i]? =some z:=λ z=>List.getElem?_replicate_of_lt hi
  exact ⟨1,1,0,g 1,g 1,g 0,Int.le_refl 1,Int.le_refl 1⟩
 ·rw [List.getElem?_map,List.getElem?_range hi];rfl
theorem Gr.one {σ:St} {b:Nat} {o:Mine.O} (hg:σ.get b=some o) (hl:σ.len=b+1):Gr σ b [o] σ:=
 ⟨⟨λ i yy e=>match i,e with
  |0,e=>(J4 e)▸hg
  |_+1,e=>nomatch e⟩,hl,λ yy yy=>rfl⟩
theorem vy {d p:Nat} {σ:St} {Q:V→St→Prop} (hg:σ.get (p+1)=some (.inst aa "KindTable" [])) (hl:σ.len=p+2)
  (k:∀σ',Gr σ (p+1) (zJ p 16) σ'→Q .none σ'):aw (d+1) (.m "KindTable" "__init__") [.ref (p+1)] σ Q:=by
 have I0:=Gr.one hg hl
 refine go jk rfl (dI rfl 5 (os':=zJ p 0) rfl I0 λ s0 I=>?_)
 refine dl (nW (n:=16) (pX rfl) (by decide)) ?_
 refine dE (λ i ρ s=>Gr σ (p+1) (zJ p i) s∧∃x1 x2,ρ=[some (.ref (p+1)),x1,x2]) (λ ρ s i=>⟨trivial,?_⟩) (λ i hi ρ s i'=>⟨trivial,λ K hK=>?_⟩) ⟨I,none,none,rfl⟩
 ·exact k s i.1
 ·obtain ⟨I,x1,x2,rfl⟩:=i'
  have hL:∀z:V,(List.replicate i z).length<aN:=λ z=>by rw [List.length_replicate];exact JY hi (by decide)
  have hR:(((List.range i).map aF.prim).map aF.v).length<aN:=by rw [List.length_map,List.length_map,List.length_range];exact JY hi (by decide)
  refine br (v:=(aF.prim i).v) (pX rfl) ?_
  apply cJ (by dsimp! [(I.B.g 0 rfl)]) (I.B.g 1 rfl) (by dsimp!) hR
  have I:=I.put (i:=1) (o:=.list aa (((List.range i).map aF.prim).map aF.v++[(aF.prim i).v])) (show 1<6 by decide)
  apply pN (by dsimp!) (by dsimp! [(I.B.g 0 rfl)]) (by dsimp!) (I.B.g 2 rfl) oq (by rw [k5,List.length_map,List.length_range];exact JY hi (by decide))
  have I:=I.put (i:=2) (o:=.dict aa 2 (bz (ir ((List.range i).map aF.prim) 0) (aF.prim i).v (.int i))) (show 2<6 by decide)
  apply cJ (by dsimp! [(I.B.g 0 rfl)]) (I.B.g 3 rfl) (by dsimp!) (hL _)
  have I:=I.put (i:=3) (o:=.list aa (List.replicate i (.int 1)++[.int 1])) (show 3<6 by decide)
  apply cJ (by dsimp! [(I.B.g 0 rfl)]) (I.B.g 4 rfl) (by dsimp!) (hL _)
  have I:=I.put (i:=4) (o:=.list aa (List.replicate i (.int 1)++[.int 1])) (show 4<6 by decide)
  apply cJ (by dsimp! [(I.B.g 0 rfl)]) (I.B.g 5 rfl) (by dsimp!) (hL _)
  have I:=I.put (i:=5) (o:=.list aa (List.replicate i (.int 0)++[.int 0])) (show 5<6 by decide)
  exact hK _ _ ⟨by rw [xw];exact I,_,_,rfl⟩
structure AS where
 rows:List aF
 tz:List (Option (Nat×Nat))
 flds:List (Option Nat)
 mzz:List (Option Nat)
 az:List String
noncomputable def tv:Option (Nat×Nat)→V
 |none=>.none
 |some (n,_)=>.ref n
noncomputable def ov:Option Nat→V
 |none=>.none
 |some n=>.ref n
noncomputable def AS.size (S:AS):Nat:=S.az.length+(S.mzz.length+(S.flds.length+(S.tz.length+S.rows.length)))
section
variable {S:AS}
theorem tT {a x y k:Nat} (h:x≤y+k):a+x≤a+y+k:=Lh a y k▸JW h a
theorem AS.szR {rows:List aF} {k:Nat} (h:rows.length≤S.rows.length+k):AS.size {S with rows:=rows}≤S.size+k:=tT (tT (tT (tT h)))
theorem AS.szL {rows:List aF} {k c d:Nat} (hs:S.size<c) (h:rows.length≤S.rows.length+k) (e:c+k≤d):AS.size {S with rows:=rows}<d:=JV (szR h) (JS (Kv hs k) e)
theorem zI {α:Type} {l:List α} {x:α} {r:Nat}:(l++[x]).length+r=l.length+r+1:=by rw [List.length_append];exact Ln _ 1 r
theorem AS.szA {x:String}:AS.size {S with az:=S.az++[x]}=S.size+1:=zI
theorem AS.szM {x:Option Nat}:AS.size {S with mzz:=S.mzz++[x]}=S.size+1:=congrArg (S.az.length+·) zI
theorem AS.szF {x:Option Nat}:AS.size {S with flds:=S.flds++[x]}=S.size+1:=congrArg (λ r=>S.az.length+(S.mzz.length+r)) zI
theorem AS.szT {x:Option (Nat×Nat)}:AS.size {S with tz:=S.tz++[x]}=S.size+1:=congrArg (λ r=>S.az.length+(S.mzz.length+(S.flds.length+r))) zI
theorem im {a b x:Nat} (h:x≤b):x≤a+b:=JT h (Nat.le_add_left b a)
theorem AS.sz_asms:S.az.length≤S.size:=JU _ _
theorem AS.sz_meths:S.mzz.length≤S.size:=im (JU _ _)
theorem AS.sz_flds:S.flds.length≤S.size:=im (im (JU _ _))
theorem AS.sz_types:S.tz.length≤S.size:=im (im (im (JU _ _)))
theorem AS.sz_rows:S.rows.length≤S.size:=im (im (im (Nat.le_add_left _ _)))
theorem AS.ltL {n c:Nat} (h:n≤S.size) (hs:S.size<c) (e:Nat.ble c aN=true):n<aN:=JV h (gA hs e)
end
noncomputable def nU (p:Nat):O:=.inst aa "Store" [("kt",.ref (p+1)),("types",.ref (p+13)),("fields_",.ref (p+8)),("methods",.ref (p+9)),("names",.ref (p+10)),("asms",.ref (p+11)),("entry",.int 0)]
structure SC (σ:St) (p:Nat) (S:AS):Prop where
 inst:σ.get p=some (nU p)
 kt:eZ σ p S.rows
 flds:σ.get (p+8)=some (.list aa (S.flds.map ov))
 mzz:σ.get (p+9)=some (.list aa (S.mzz.map ov))
 names:∃l,σ.get (p+10)=some (.dict aa 2 l)∧l.length≤S.tz.length
 az:σ.get (p+11)=some (.list aa (S.az.map V.str))
 tz:σ.get (p+13)=some (.list aa (S.tz.map tv))
 len:p+14≤σ.len
 ti:∀(i n a:Nat),S.tz[i]? =some (some (n,a))→p+14≤n∧n<σ.len∧∃as,σ.get n=some (.inst aa "TypeDef" as)∧cu as "asm"=some (vi a)
theorem SC.frame {σ σ':St} {p:Nat} {S:AS} (C:SC σ p S) (hl:σ.len≤σ'.len) (h1:∀k,p≤k→k<p+14→σ'.get k=σ.get k)
  (h2:∀(i n a:Nat),S.tz[i]? =some (some (n,a))→∃as,σ'.get n=some (.inst aa "TypeDef" as)∧cu as "asm"=some (vi a)):SC σ' p S:=by
 have h:∀i,i<14→∀{o},σ.get (p+i)=some o→σ'.get (p+i)=some o:=λ i a o e=>(h1 _ (JU p i) (J0 a p)).trans e
 refine ⟨h 0 (by decide) C.inst,C.kt.frame hl λ n a b=>h1 n (JT (JU p 1) a) (JS b (JW (by decide) p)),h 8 (by decide) C.flds,h 9 (by decide) C.mzz,C.names.imp λ l e=>⟨h 10 (by decide) e.1,e.2⟩,h 11 (by decide) C.az,h 13 (by decide) C.tz,JT C.len hl,λ i n a e=>?_⟩
 have t:=C.ti i n a e
 exact ⟨t.1,JS t.2.1 hl,h2 i n a e⟩
theorem SC.frame' {σ σ':St} {p:Nat} {S:AS} (C:SC σ p S) (hl:σ.len≤σ'.len) (h1:∀k,p≤k→k<σ.len→σ'.get k=σ.get k):SC σ' p S:=
 C.frame hl (λ k a b=>h1 k a (JS b C.len)) λ i n a e=>
  have t:=C.ti i n a e
  t.2.2.imp λ as x=>⟨(h1 n (JT (JU p 14) t.1) t.2.1).trans x.1,x.2⟩
noncomputable def JB (p:Nat):List (String×V):=[("kt",.ref (p+1)),("types",.ref (p+7)),("fields_",.ref (p+8)),("methods",.ref (p+9)),("names",.ref (p+10)),("asms",.ref (p+11)),("entry",.int 0)]
noncomputable def BG (p:Nat):List Mine.O:=[.inst aa "Store" (JB p)]++zJ p 16++[.list aa [.none],.list aa [.none],.list aa [.none],.dict aa 2 [],.list aa []]
theorem oM {d p:Nat} {σ:St} {Q:V→St→Prop} (hg:σ.get p=some (.inst aa "Store" [])) (hl:σ.len=p+1)
  (k:∀σ',Gr σ p (BG p) σ'→Q .none σ'):aw (d+2) (.m "Store" "__init__") [.ref p] σ Q:=by
 refine go pg rfl ?_
 have l1:=eb (o:=.inst aa "KindTable" []) hl
 apply bq
 show aw (d+1) (.m "KindTable" "__init__") [.ref σ.len] (σ.new (.inst aa "KindTable" [])) λ r σ2=>r=.none∧_
 rw [hl]
 refine vy (gY hl.symm) l1 λ s1 I1=>⟨rfl,?_⟩
 have J:Gr σ p ([.inst aa "Store" []]++zJ p 16) s1:=by
  refine ⟨⟨λ i o e=>?_⟩,I1.len,λ k h=>(I1.fr k (Kr h)).trans (aP (by rw [hl];exact Kr h))⟩
  cases i with
  |zero=>cases e;exact (I1.fr p (Kc p)).trans (bT hg)
  |succ i=>rw [Nat.add_comm i 1,←Nat.add_assoc];exact I1.B.g i e
 refine sp (J.B.g 0 rfl) rfl ?_
 have J:=J.put (i:=0) (o:=.inst aa "Store" [("kt",.ref (p+1))]) (show 0<7 by decide)
 exact dI rfl 6 (os':=BG p) rfl J λ s2 J=>k s2 J
theorem SC.ne {p i j:Nat} (h:i≠j):p+i≠p+j:=λ e=>h (Lj e)
theorem SC.lt {σ:St} {p i:Nat} {S:AS} (C:SC σ p S) (h:i<14):p+i<σ.len:=JS (J0 h p) C.len
theorem je {d p:Nat} {S:AS} {name:String} {σ:St} {Q:V→St→Prop} (C:SC σ p S) (hs:S.size<90000)
  (k:∀σ',SC σ' p {S with az:=S.az++[name]}→σ'.len=σ.len→(∀k,k≠p+11→σ'.get k=σ.get k)→Q (.int S.az.length) σ'):aw (d+1) (.g "new_asm") [.ref p,.str name] σ Q:=by
 refine go vD rfl ?_
 apply cJ (by dsimp! [C.inst]) C.az (by dsimp!) (by rw [List.length_map];exact AS.ltL AS.sz_asms hs rfl)
 have g:∀i,i≠11→∀{o:Mine.O},σ.get (p+i)=some o→(σ.put (p+11) (.list aa (S.az.map V.str++[.str name]))).get (p+i)=some o:=λ i h yy e=>aA (SC.ne h) e
 have e:(V.int ((S.az.map V.str++[V.str name]).length:Nat))=.int ((S.az.length+1:Nat):Int):=by rw [List.length_append,List.length_map];rfl
 have g11:=aX (o:=.list aa (S.az.map V.str++[.str name])) (C.lt (i:=11) (by decide))
 refine bj (v:=.int S.az.length) (λ Q q=>?_) ?_
 ·apply cj (g 0 (by decide) C.inst) rfl
  apply bH g11 (n:=S.az.length+1) (congrArg some (by rw [List.length_append,List.length_map];rfl))
  show Q (.int ((S.az.length+1:Nat) - 1)) _
  rw [Int.natCast_add,show ((1:Nat):Int)=1 from rfl,Int.add_sub_cancel]
  exact q
 refine k _ ⟨g 0 (by decide) C.inst,C.kt.frame (J3 aj.symm) λ n a b=>aR (J5 (JS b (JW (by decide) p))),g 8 (by decide) C.flds,g 9 (by decide) C.mzz,C.names.imp λ l e=>⟨g 10 (by decide) e.1,e.2⟩,by rw [List.map_append];exact g11,g 13 (by decide) C.tz,JT C.len (J3 aj.symm),λ i n a e=>?_⟩ aj λ k hk=>aR hk
 have t:=C.ti i n a e
 exact ⟨t.1,px t.2.1,t.2.2.imp λ as x=>⟨aA (J8 (JS (J0 (by decide) p) t.1)) x.1,x.2⟩⟩
noncomputable def cU (n tid:Nat) (name:String) (fr mr asm cc fi:Nat):Mine.O:=.inst aa "TypeDef" [("tid",vi tid),("name",.str name),("sort",.int 1),("flags",.int 0),("base",.int 12),("ifaces",.ref (n+1)),("params",.ref (n+2)),("variances",.ref (n+3)),("bounds",.ref (n+4)),("fields",.ref fr),("methods",.ref mr),("asm",vi asm),("cctor",vi cc),("under",.int (-1)),("impls",.ref (n+7)),("props",.ref (n+8)),("events",.ref (n+9)),("finaliser",vi fi),("home",.int 0)]
structure TT (σ:St) (n:Nat) (ps:List String):Prop where
 ifaces:σ.get (n+1)=some (.list aa [])
 params:σ.get (n+2)=some (.list aa (ps.map V.str))
 vars:σ.get (n+3)=some (.list aa (ps.map λ yy=>.int 0))
 bounds:σ.get (n+4)=some (.list aa (ps.map λ yy=>.tup [.int 0,.tup []]))
 len:n+5≤σ.len
theorem TT.frame {σ σ':St} {n:Nat} {ps:List String} (T:TT σ n ps) (hl:σ.len≤σ'.len) (h:∀k,n+1≤k→k<n+5→σ'.get k=σ.get k):TT σ' n ps:=
 have g:∀i,1≤i→i<5→∀{o},σ.get (n+i)=some o→σ'.get (n+i)=some o:=λ i a b yy e=>(h _ (JW a n) (J0 b n)).trans e
 ⟨g 1 (by decide) (by decide) T.ifaces,g 2 (by decide) (by decide) T.params,g 3 (by decide) (by decide) T.vars,g 4 (by decide) (by decide) T.bounds,JT T.len hl⟩
noncomputable def yC (n:Nat) (ps:List String) (td:Mine.O):List Mine.O:=[td,.list aa [],.list aa (ps.map V.str),.list aa (ps.map λ yy=>.int 0),.list aa (ps.map λ yy=>.tup [.int 0,.tup []]),.list aa [],.list aa [],.list aa [],.list aa [],.list aa []]
theorem TT.of {σ:St} {n:Nat} {ps:List String} {td:Mine.O} (B:c7 σ n (yC n ps td)) (hl:n+5≤σ.len):TT σ n ps:=⟨B.g 1 rfl,B.g 2 rfl,B.g 3 rfl,B.g 4 rfl,hl⟩
theorem vw {d n tid asm pl:Nat} {name:String} {ps:List String} {σ:St} {Q:V→St→Prop} (hg:σ.get n=some (.inst aa "TypeDef" [])) (hl:σ.len=n+1) (hp:σ.get pl=some (.list aa (ps.map V.str))) (hpl:pl<n) (hps:ps=[]∨ps=["T"])
  (k:∀σ',Gr σ n (yC n ps (cU n tid name (n+5) (n+6) asm 0 0)) σ'→Q .none σ'):
  aw (d+1) (.m "TypeDef" "__init__") [.ref n,.int tid,.str name,.int 1,.int 0,.int 12,.ref pl,.int asm] σ Q:=by
 let A:List (String×V):=[("tid",.int tid),("name",.str name),("sort",.int 1),("flags",.int 0),("base",.int 12),("ifaces",.ref (n+1)),("params",.ref (n+2)),("variances",.ref (n+3)),("bounds",.ref (n+4))]
 refine go lO rfl (dI rfl 9 (os':=(yC n [] (.inst aa "TypeDef" A)).take 5) rfl (Gr.one hg hl) λ s0 I=>?_)
 have fin:∀(s:St) (x:Option V),Gr σ n ((yC n ps (.inst aa "TypeDef" A)).take 5) s→ah (aw d) (c9.drop 10) [some (.ref n),some (.int tid),some (.str name),some (.int 1),some (.int 0),some (.int 12),some (.ref pl),some (.int asm),x] s (λ o yy σ'=>Q (cp o) σ'):=λ s x I=>
  dI rfl 10 (os':=yC n ps (cU n tid name (n+5) (n+6) asm 0 0)) rfl I λ σ' I'=>k σ' I'
 apply dl (by dsimp! [gu ((I.fr pl hpl).trans hp)])
 rcases hps with rfl|rfl
 ·exact ⟨(I.fr pl hpl).trans hp,fin s0 _ I⟩
 ·refine ⟨(I.fr pl hpl).trans hp,?_⟩
  apply cJ (by dsimp! [(I.B.g 0 rfl)]) (I.B.g 2 rfl) (by dsimp!) (show 0<aN by decide)
  have I:=I.put (i:=2) (o:=.list aa [.str "T"]) (show 2<5 by decide)
  apply cJ (by dsimp! [(I.B.g 0 rfl)]) (I.B.g 3 rfl) (by dsimp!) (show 0<aN by decide)
  have I:=I.put (i:=3) (o:=.list aa [.int 0]) (show 3<5 by decide)
  apply cJ (by dsimp! [(I.B.g 0 rfl)]) (I.B.g 4 rfl) (by dsimp!) (show 0<aN by decide)
  have I:=I.put (i:=4) (o:=.list aa [.tup [.int 0,.tup []]]) (show 4<5 by decide)
  exact ⟨(I.fr pl hpl).trans hp,fin _ _ I⟩
theorem ot {a c:Nat} {b:String}:kk 2 (.tup [.int a,.str b,.int c])=true:=rfl
theorem sI {C:ak} {c:String} {xs:List X} {ρ:ax} {σ σ':St} {vs:List V} {n:Nat} {Q:V→St→Prop} (h:∀Q,Q vs σ'→aI C xs ρ σ Q) (hn:σ'.len=n) (q:C (.m c "__init__") (.ref n::vs) (σ'.new (.inst aa c [])) λ r σ2=>r=.none∧Q (.ref n) σ2):aH C (.new c xs) ρ σ Q:=by
 subst hn;exact h _ q
theorem oO {d:Nat} {σ:St} {Q:V→St→Prop} (q:Q (.int 0) σ):aw (d+1) (.g "sort_flags") [.int 1,.int 0] σ Q:=
 go oU rfl (ay (pT rfl) (aU (pT rfl) (bj (pX rfl) q)))
theorem eS {d p asm pl:Nat} {name:String} {ps:List String} {S:AS} {σ:St} {Q:V→St→Prop} (C:SC σ p S) (hs:S.size<90000) (hp:σ.get pl=some (.list aa (ps.map V.str))) (hpl:p+14≤pl∨pl<p) (hps:ps=[]∨ps=["T"])
  (k:∀σ',SC σ' p {S with tz:=S.tz++[some (σ.len,asm)]}→c7 σ' σ.len (yC σ.len ps (cU σ.len S.tz.length name (σ.len+5) (σ.len+6) asm 0 0))→σ'.len=σ.len+10→
   (∀k,k<σ.len→k≠p+13→k≠p+10→σ'.get k=σ.get k)→Q (.int S.tz.length) σ'):aw (d+2) (.g "add_type") [.ref p,.int asm,.str name,.int 1,.int 0,.int 12,.ref pl] σ Q:=by
 have hpll:=ac hp
 have hT:S.tz.length<aN:=AS.ltL AS.sz_types hs rfl
 have g13:=C.tz
 refine go tK rfl (ay (pT rfl) ?_)
 apply br (by dsimp! [C.inst,bH g13 (congrArg some (List.length_map _))])
 refine fg ?_
 apply cj C.inst rfl
 apply yF g13 rfl
 have l1:=eb (o:=.inst aa "TypeDef" []) (rfl:σ.len=σ.len)
 refine sI (n:=σ.len) (vs:=[.int S.tz.length,.str name,.int 1,.int 0,.int 12,.ref pl,.int asm]) (λ Q q=>oO q) rfl ?_
 refine vw (gY rfl) l1 (bT hp) hpll hps λ s1 I=>⟨rfl,?_⟩
 have hf:∀k,k<σ.len→s1.get k=σ.get k:=λ k hk=>(I.fr k hk).trans (aP hk)
 have g:∀{k:Nat} {o:Mine.O},σ.get k=some o→s1.get k=some o:=λ h=>(hf _ (ac h)).trans h
 apply oo (g g13) (by rw [List.length_map];exact hT)
 have hne:pl≠p+13:=hpl.elim (λ h=>J8 (JS (J0 (by decide) p) h)) λ h=>J5 (JS h (JU p 13))
 have g':∀{i:Nat} {o:Mine.O},i≠13→σ.get (p+i)=some o→(s1.put (p+13) (.list aa (S.tz.map tv++[.ref σ.len]))).get (p+i)=some o:=λ h e=>aA (SC.ne h) (g e)
 apply br (v:=.tup [.int asm,.str name,.int ps.length]) (by dsimp! [bH (aA hne (g hp)) (congrArg some (List.length_map _))])
 have fin:∀s:St,(∃l,s.get (p+10)=some (.dict aa 2 l)∧l.length≤S.tz.length+1)→s.len=σ.len+10→(∀k,k≠p+10→s.get k=(s1.put (p+13) (.list aa (S.tz.map tv++[.ref σ.len]))).get k)→Q (.int S.tz.length) s:=by
  intro s hn ls fs
  have h:∀{i:Nat} {o:Mine.O},i≠10→i≠13→σ.get (p+i)=some o→s.get (p+i)=some o:=λ h1 h2 e=>(fs _ (SC.ne h1)).trans (g' h2 e)
  have hb:∀k,σ.len≤k→s.get k=s1.get k:=λ k h=>(fs k (J8 (JS (C.lt (by decide)) h))).trans (aR (J8 (JS (C.lt (by decide)) h)))
  have B:c7 s σ.len (yC σ.len ps (cU σ.len S.tz.length name (σ.len+5) (σ.len+6) asm 0 0)):=I.B.fr λ k a yy=>hb k a
  refine k s ⟨h (i:=0) (by decide) (by decide) C.inst,C.kt.frame (by rw [ls];exact JU _ _) λ n a b=>?_,h (by decide) (by decide) C.flds,h (by decide) (by decide) C.mzz,hn.imp λ l e=>⟨e.1,by rw [List.length_append];exact e.2⟩,h (by decide) (by decide) C.az,by rw [List.map_append];exact (fs _ (nf rfl)).trans (aX (by rw [I.len];exact JS (C.lt (by decide)) (JU _ _))),by rw [ls];exact JT C.len (JU _ _),λ i n a e=>?_⟩ B ls λ k h1 h2 h3=>(fs k h3).trans ((aR h2).trans (hf k h1))
  ·have:n<p+10:=JS b (JW (by decide) p)
   exact (fs n (J5 this)).trans ((aR (J5 (JY this (J0 (by decide) p)))).trans (hf n (JS b (JT (JW (by decide) p) C.len))))
  ·rcases bU e with e|⟨_,e⟩
   ·have t:=C.ti i n a e
    have hn:∀i,i<14→n≠p+i:=λ i h=>J8 (JS (J0 h p) t.1)
    exact ⟨t.1,by rw [ls];exact JS t.2.1 (JU _ _),t.2.2.imp λ as x=>⟨(fs n (hn 10 (by decide))).trans (aA (hn 13 (by decide)) (g x.1)),x.2⟩⟩
   ·cases e
    exact ⟨C.len,by rw [ls];exact KD (by decide),_,B.g 0 rfl,rfl⟩
 refine C.names.elim λ l n=>?_
 have hl2:l.length<aN:=JV n.2 hT
 have l10:(s1.put (p+13) (.list aa (S.tz.map tv++[.ref σ.len]))).len=σ.len+10:=aj.trans I.len
 cases hd:ae l (.tup [.int asm,.str name,.int ps.length]) with
 |some v=>
  apply ay (by dsimp! [(g' (i:=0) (by decide) C.inst),n9,rb (g' (i:=10) (by decide) n.1) ot (congrArg Option.isSome hd)])
  exact bj (pX rfl) (fin _ ⟨l,g' (by decide) n.1,KQ n.2⟩ l10 λ yy yy=>rfl)
 |none=>
  apply aU (by dsimp! [(g' (i:=0) (by decide) C.inst),n9,rb (g' (i:=10) (by decide) n.1) ot (congrArg Option.isSome hd)])
  apply pN (by dsimp!) (by dsimp! [(g' (i:=0) (by decide) C.inst)]) (by dsimp!) (g' (i:=10) (by decide) n.1) ot hl2
  exact bj (pX rfl) (fin _ ⟨_,aX (by rw [l10];exact JS (C.lt (by decide)) (JU _ _)),JT ju (Kj n.2)⟩ (aj.trans l10) λ k hk=>aR hk)
noncomputable def IC (fid tid:Nat) (name:String) (kd:Nat):Mine.O:=.inst aa "FieldDef" [("fid",vi fid),("owner",vi tid),("name",.str name),("kind",vi kd),("access",.int 6),("flags",.int 0),("value",.none)]
theorem jC {d p tid n fr mr asm cc fi kd:Nat} {tn name:String} {S:AS} {lf:List Nat} {σ:St} {Q:V→St→Prop} (C:SC σ p S) (hs:S.size<90000) (ht:S.tz[tid]? =some (some (n,asm))) (hn:σ.get n=some (cU n tid tn fr mr asm cc fi)) (hf:σ.get fr=some (.list aa (lf.map vi))) (hfr:p+14≤fr) (hlf:lf.length<1000)
  (k:∀σ',SC σ' p {S with flds:=S.flds++[some σ.len]}→σ'.len=σ.len+1→σ'.get σ.len=some (IC S.flds.length tid name kd)→σ'.get fr=some (.list aa ((lf++[S.flds.length]).map vi))→(∀k,k<σ.len→k≠p+8→k≠fr→σ'.get k=σ.get k)→Q (.int S.flds.length) σ'):
  aw (d+2) (.g "add_field") [.ref p,.int tid,.str name,.int kd,.int 6,.int 0] σ Q:=by
 have hfl:=ac hf
 have hF:S.flds.length<aN:=AS.ltL AS.sz_flds hs rfl
 refine go rT rfl ?_
 apply br (by dsimp! [C.inst,bp C.tz ht])
 apply br (by dsimp! [C.inst,bH C.flds (congrArg some (List.length_map _))])
 refine fg ?_
 apply cj C.inst rfl
 apply yF C.flds rfl
 refine sI (n:=σ.len) (vs:=[.int S.flds.length,.int tid,.str name,.int kd,.int 6,.int 0]) (pS rfl) rfl ?_
 refine go j0 rfl (dI rfl 7 (os':=[IC S.flds.length tid name kd]) rfl (Gr.one (gY rfl) (eb rfl)) λ s1 I=>⟨rfl,?_⟩)
 have l1:s1.len=σ.len+1:=I.len
 have hf1:∀k,k<σ.len→s1.get k=σ.get k:=λ k hk=>(I.fr k hk).trans (aP hk)
 have g:∀{k:Nat} {o:Mine.O},σ.get k=some o→s1.get k=some o:=λ h=>(hf1 _ (ac h)).trans h
 apply oo (g C.flds) (by rw [List.length_map];exact hF)
 have hne:fr≠n:=λ e=>by rw [e,hn] at hf;cases hf
 have h14:∀i x,i<14→p+14≤x→x≠p+i:=λ i x a b=>J8 (JS (J0 a p) b)
 have t:=C.ti tid n asm ht
 apply cJ (by dsimp! [(aA (h14 8 n (by decide) t.1) (g hn))]) (aA (h14 8 fr (by decide) hfr) (g hf)) (by dsimp!) (by rw [List.length_map];exact JY hlf (by decide))
 have F:∀k,k<σ.len→k≠p+8→k≠fr→((s1.put (p+8) (.list aa (S.flds.map ov++[.ref σ.len]))).put fr (.list aa (lf.map vi++[.int S.flds.length]))).get k=σ.get k:=λ k a b c=>(aR c).trans ((aR b).trans (hf1 k a))
 have h:∀{i:Nat} {o:Mine.O},i≠8→i<14→σ.get (p+i)=some o→((s1.put (p+8) (.list aa (S.flds.map ov++[.ref σ.len]))).put fr (.list aa (lf.map vi++[.int S.flds.length]))).get (p+i)=some o:=λ {i _} a b e=>(F _ (C.lt b) (SC.ne a) (h14 i fr b hfr).symm).trans e
 have l2:((s1.put (p+8) (.list aa (S.flds.map ov++[.ref σ.len]))).put fr (.list aa (lf.map vi++[.int S.flds.length]))).len=σ.len+1:=aj.trans (aj.trans l1)
 refine bj (pX rfl) (k _ ⟨h (i:=0) (by decide) (by decide) C.inst,C.kt.frame (by rw [l2];exact Kt _) λ n a b=>?_,?_,h (by decide) (by decide) C.mzz,C.names.imp λ l e=>⟨h (by decide) (by decide) e.1,e.2⟩,h (by decide) (by decide) C.az,h (by decide) (by decide) C.tz,by rw [l2];exact KQ C.len,λ i n' a e=>?_⟩ l2 ?_ ?_ F)
 ·have:n<p+8:=JS b (JW (by decide) p)
  exact F n (JY this (C.lt (by decide))) (J5 this) (J5 (JS this (JT (JW (by decide) p) hfr)))
 ·rw [List.map_append]
  exact aA (h14 8 fr (by decide) hfr).symm (aX (by rw [l1];exact Kr (C.lt (by decide))))
 ·have t:=C.ti i n' a e
  refine ⟨t.1,by rw [l2];exact Kr t.2.1,t.2.2.imp λ as x=>⟨(F n' t.2.1 (h14 8 n' (by decide) t.1) λ e=>?_).trans x.1,x.2⟩⟩
  rw [←e,x.1] at hf;cases hf
 ·exact aA (J8 hfl) (aA (J8 (C.lt (by decide))) (I.B.g 0 rfl))
 ·rw [List.map_append]
  exact aX (by rw [aj,l1];exact Kr hfl)
noncomputable def yE (c:Nat):List V:=(List.range c).map λ (i:Nat)=>.str ("p"++toString (i:Int))
theorem mo {d c:Nat} {σ:St} {Q:V→St→Prop} (hc:c≤2)
  (k:∀σ',σ'.len=σ.len+1→σ'.get σ.len=some (.list aa (yE c))→(∀k,k<σ.len→σ'.get k=σ.get k)→Q (.tup (yE c)) σ'):aw (d+1) (.g "plain_names") [.int c] σ Q:=by
 refine go mx rfl ?_
 show ah _ (.for_ false [2] (.rng1 (.loc 0)) _::_) [some (.int c),some (.ref σ.len),none] (σ.new (.list aa [])) _
 refine dl (nW (n:=c) (pX rfl) (JT hc (by decide))) ?_
 have l0:=eb (o:=.list aa []) (rfl:σ.len=σ.len)
 have g0:(σ.new (.list aa [])).get σ.len=some (.list aa []):=gY rfl
 have fin:∀s (ρ:List (Option V)),s.len=σ.len+1→s.get σ.len=some (.list aa (yE c))→(∀k,k<σ.len→s.get k=σ.get k)→ah (aw d) [.ret (.tupleOf (.loc 1))] (some (.int c)::some (.ref σ.len)::ρ) s (λ o yy σ'=>Q (cp o) σ'):=λ s ρ l g f=>by
  apply nS g rfl
  exact k s l g f
 match c,hc,fin with
 |0,_,fin=>exact ⟨trivial,fin _ _ l0 g0 λ yy=>aP⟩
 |1,_,fin=>
  show c2 _ _ [.int 0] _ _ _
  refine ⟨trivial,?_⟩
  apply cJ (by dsimp!) g0 (by dsimp! [BF (show (0:Int)≤0 by decide) (show (0:Int)<10 by decide),And.intro (show "p".length+(toString (0:Int)).length≤1000 by decide)]) (show 0<aN by decide)
  exact ⟨trivial,fin _ _ (aj.trans l0) (aX (by rw [l0];exact Kc _)) λ k h=>(aR (J5 h)).trans (aP h)⟩
 |2,_,fin=>
  show c2 _ _ [.int 0,.int 1] _ _ _
  refine ⟨trivial,?_⟩
  apply cJ (by dsimp!) g0 (by dsimp! [BF (show (0:Int)≤0 by decide) (show (0:Int)<10 by decide),And.intro (show "p".length+(toString (0:Int)).length≤1000 by decide)]) (show 0<aN by decide)
  refine ⟨trivial,?_⟩
  have g1:=aX (σ:=σ.new (.list aa [])) (n:=σ.len) (o:=.list aa ([]++[.str ("p"++toString (0:Int))])) (by rw [l0];exact Kc _)
  apply cJ (by dsimp!) g1 (by dsimp! [BF (show (0:Int)≤1 by decide) (show (1:Int)<10 by decide),And.intro (show "p".length+(toString (1:Int)).length≤1000 by decide)]) (show 1<aN by decide)
  exact ⟨trivial,fin _ _ (aj.trans (aj.trans l0)) (aX (by rw [aj,l0];exact Kc _)) λ k h=>(aR (J5 h)).trans ((aR (J5 h)).trans (aP h))⟩
theorem Gr.ext {σ0 σ σ1:St} {b:Nat} {os:List Mine.O} {o:Mine.O} (I:Gr σ0 b os σ) (l:σ1.len=σ.len+1) (g:σ1.get σ.len=some o) (f:∀k,k<σ.len→σ1.get k=σ.get k):Gr σ0 b (os++[o]) σ1:=
 ⟨⟨λ i o' e=>(bU e).elim (λ e=>(f _ (ac (I.B.g i e))).trans (I.B.g i e)) λ e=>by rw [e.1,e.2,←I.len];exact g⟩,by rw [l,I.len,List.length_append];rfl,λ k h=>(f k (by rw [I.len];exact JS h (JU b _))).trans (I.fr k h)⟩
noncomputable def oj (mid tid:Nat) (name:String) (fl ng gn gb ret:Nat) (ks:List Nat) (body:V):Mine.O:=.inst aa "MethodDef" [("mid",vi mid),("owner",vi tid),("name",.str name),("access",.int 6),("flags",vi fl),("ngen",vi ng),("gnames",.ref gn),("gbounds",.ref gb),("ret",vi ret),("params",.tup (ks.map vi)),("pnames",.tup (yE ks.length)),("pflags",.tup (rep ks.length [.int 0])),("body",body),("native",.int 0)]
theorem vx {d n mid tid fl ret:Nat} {name:String} {pv:V} {ks:List Nat} {σ:St} {Q:V→St→Prop} (hg:σ.get n=some (.inst aa "MethodDef" [])) (hl:σ.len=n+1) (hk:ks.length≤2)
  (hp:pv=.tup (ks.map vi)∨∃z,z<n∧pv=.ref z∧σ.get z=some (.list aa (ks.map vi)))
  (k:∀σ',σ'.len=n+4→σ'.get n=some (oj mid tid name fl 0 (n+1) (n+2) ret ks .none)→(∀k,k<n→σ'.get k=σ.get k)→Q .none σ'):
  aw (d+2) (.m "MethodDef" "__init__") [.ref n,.int mid,.int tid,.str name,.int 6,.int fl,.int ret,pv] σ Q:=by
 have tp:∀{s:St},(∀k,k<n→s.get k=σ.get k)→∀{Q:V→St→Prop},Q (.tup (ks.map vi)) s→eD pv s Q:=λ f Q q=>by
  rcases hp with rfl|⟨z,hz,rfl,hz2⟩
  ·exact yV q
  ·exact nS ((f z hz).trans hz2) rfl q
 have ln:∀{s:St},(∀k,k<n→s.get k=σ.get k)→∀{Q:V→St→Prop},Q (.int ks.length) s→kP pv s Q:=λ f Q q=>by
  rcases hp with rfl|⟨z,hz,rfl,hz2⟩
  ·exact GN (Km _) q
  ·exact bH ((f z hz).trans hz2) (congrArg some (Km _)) q
 let A:List (String×V):=[("mid",.int mid),("owner",.int tid),("name",.str name),("access",.int 6),("flags",.int fl),("ngen",.int 0),("gnames",.ref (n+1)),("gbounds",.ref (n+2)),("ret",.int ret)]
 refine go jj rfl (dI rfl 9 (os':=[.inst aa "MethodDef" A,.list aa [],.list aa []]) rfl (Gr.one hg hl) λ s0 I=>?_)
 refine FN (v:=.tup (ks.map vi)) (λ Q q=>tp I.fr q) (pX rfl) (I.B.g 0 rfl) rfl ?_
 have I:=I.put (i:=0) (o:=.inst aa "MethodDef" (A++[("params",.tup (ks.map vi))])) (show 0<3 by decide)
 refine bq (ln I.fr ?_)
 refine mo hk λ s1 l1 g1 f1=>?_
 have I:=I.ext l1 g1 f1
 refine sp (I.B.g 0 rfl) rfl ?_
 have I:=I.put (i:=0) (o:=.inst aa "MethodDef" (A++[("params",.tup (ks.map vi)),("pnames",.tup (yE ks.length))])) (show 0<4 by decide)
 refine bq (ln I.fr ⟨Kp _,KP.mpr hk,rfl,?_⟩)
 refine sp (I.B.g 0 rfl) rfl ?_
 have I:=I.put (i:=0) (o:=.inst aa "MethodDef" (A++[("params",.tup (ks.map vi)),("pnames",.tup (yE ks.length)),("pflags",.tup (rep ks.length [.int 0]))])) (show 0<4 by decide)
 refine dI rfl 2 (os':=[oj mid tid name fl 0 (n+1) (n+2) ret ks .none,.list aa [],.list aa [],.list aa (yE ks.length)]) rfl I λ s' I'=>k s' I'.len (I'.B.g 0 rfl) I'.fr
theorem Ew {d fl:Nat} {σ:St} {Q:V→St→Prop} (h:fl≤1) (q:Q (.int fl) σ):aw (d+1) (.g "kept_flags") [.int fl] σ Q:=by
 refine go oY rfl (ay (λ Q' q'=>?_) (bj (pX rfl) q))
 match fl,h with
 |0,_=>refine ⟨by decide,by decide,EM rfl ?_⟩;exact q'
 |1,_=>refine ⟨by decide,by decide,EM rfl ?_⟩;exact q'
theorem Eu {d p tid n n' asm fl ret:Nat} {name:String} {S:AS} {ks:List Nat} {σ:St} {Q:V→St→Prop} (hi:σ.get p=some (nU p)) {mv:List V} (hm:σ.get (p+9)=some (.list aa mv)) {mid:Nat} (hv:mv[mid]? =some (.ref n')) (hT:σ.get (p+13)=some (.list aa (S.tz.map tv)))
  (ht:S.tz[tid]? =some (some (n,asm))) (hM:σ.get n'=some (oj mid tid name fl 0 (n'+1) (n'+2) ret ks .none)) (hfl:fl≤1) (hnm:name≠"Finalize") (q:Q .none σ):aw (d+1) (.g "note_method") [.ref p,.int mid] σ Q:=by
 refine go my rfl ?_
 apply br (by dsimp! [hi,FJ hm hv])
 apply br (by dsimp! [hi,hM,bp hT ht])
 refine ay (λ Q q=>?_) (ay (λ Q q=>?_) q)
 ·apply cj hM rfl
  match fl,hfl with
  |0,_=>exact ⟨by decide,by decide,EM rfl q⟩
  |1,_=>exact ⟨by decide,by decide,EM rfl q⟩
 ·apply cj hM rfl
  exact Jf hnm q
theorem iC {d p tid n fr mr asm cc fi fl ret:Nat} {tn name:String} {S:AS} {lm ks:List Nat} {pv:V} {σ:St} {Q:V→St→Prop} (C:SC σ p S) (hs:S.size<90000) (ht:S.tz[tid]? =some (some (n,asm))) (hn:σ.get n=some (cU n tid tn fr mr asm cc fi)) (hf:σ.get mr=some (.list aa (lm.map vi))) (hfr:p+14≤mr) (hlf:lm.length<1000)
  (hfl:fl≤1) (hnm:name≠"Finalize") (hk:ks.length≤2) (hp:pv=.tup (ks.map vi)∨∃z,(z<p∨p+14≤z)∧pv=.ref z∧σ.get z=some (.list aa (ks.map vi)))
  (k:∀σ',SC σ' p {S with mzz:=S.mzz++[some σ.len]}→σ'.len=σ.len+4→σ'.get σ.len=some (oj S.mzz.length tid name fl 0 (σ.len+1) (σ.len+2) ret ks .none)→σ'.get mr=some (.list aa ((lm++[S.mzz.length]).map vi))→(∀k,k<σ.len→k≠p+9→k≠mr→σ'.get k=σ.get k)→Q (.int S.mzz.length) σ'):
  aw (d+3) (.g "add_method") [.ref p,.int tid,.str name,.int 6,.int fl,.int ret,pv] σ Q:=by
 have hfl':=ac hf
 have hF:S.mzz.length<aN:=AS.ltL AS.sz_meths hs rfl
 refine go pf rfl ?_
 apply br (by dsimp! [C.inst,bp C.tz ht])
 apply br (by dsimp! [C.inst,bH C.mzz (congrArg some (List.length_map _))])
 refine fg ?_
 apply cj C.inst rfl
 apply yF C.mzz rfl
 refine sI (n:=σ.len) (vs:=[.int S.mzz.length,.int tid,.str name,.int 6,.int fl,.int ret,pv]) (λ Q q=>Ew hfl q) rfl ?_
 have hp':pv=.tup (ks.map vi)∨∃z,z<σ.len∧pv=.ref z∧(σ.new (.inst aa "MethodDef" [])).get z=some (.list aa (ks.map vi)):=hp.imp id λ ⟨z,_,h2,h3⟩=>⟨z,ac h3,h2,bT h3⟩
 refine vx (gY rfl) (eb rfl) hk hp' λ s1 l1 g1 f1=>⟨rfl,?_⟩
 have hf1:∀k,k<σ.len→s1.get k=σ.get k:=λ k hk=>(f1 k hk).trans (aP hk)
 have g:∀{k:Nat} {o:Mine.O},σ.get k=some o→s1.get k=some o:=λ h=>(hf1 _ (ac h)).trans h
 apply oo (g C.mzz) (by rw [List.length_map];exact hF)
 have hne:mr≠n:=λ e=>by rw [e,hn] at hf;cases hf
 have h14:∀i x,i<14→p+14≤x→x≠p+i:=λ i x a b=>J8 (JS (J0 a p) b)
 have t:=C.ti tid n asm ht
 apply cJ (by dsimp! [(aA (h14 9 n (by decide) t.1) (g hn))]) (aA (h14 9 mr (by decide) hfr) (g hf)) (by dsimp!) (by rw [List.length_map];exact JY hlf (by decide))
 have F:∀k,k<σ.len→k≠p+9→k≠mr→((s1.put (p+9) (.list aa (S.mzz.map ov++[.ref σ.len]))).put mr (.list aa (lm.map vi++[.int S.mzz.length]))).get k=σ.get k:=λ k a b c=>(aR c).trans ((aR b).trans (hf1 k a))
 have h:∀{i:Nat} {o:Mine.O},i≠9→i<14→σ.get (p+i)=some o→((s1.put (p+9) (.list aa (S.mzz.map ov++[.ref σ.len]))).put mr (.list aa (lm.map vi++[.int S.mzz.length]))).get (p+i)=some o:=λ {i _} a b e=>(F _ (C.lt b) (SC.ne a) (h14 i mr b hfr).symm).trans e
 have l2:((s1.put (p+9) (.list aa (S.mzz.map ov++[.ref σ.len]))).put mr (.list aa (lm.map vi++[.int S.mzz.length]))).len=σ.len+4:=aj.trans (aj.trans l1)
 have gn:((s1.put (p+9) (.list aa (S.mzz.map ov++[.ref σ.len]))).put mr (.list aa (lm.map vi++[.int S.mzz.length]))).get σ.len=some (oj S.mzz.length tid name fl 0 (σ.len+1) (σ.len+2) ret ks .none):=aA (J8 hfl') (aA (J8 (C.lt (by decide))) g1)
 have g9:((s1.put (p+9) (.list aa (S.mzz.map ov++[.ref σ.len]))).put mr (.list aa (lm.map vi++[.int S.mzz.length]))).get (p+9)=some (.list aa (S.mzz.map ov++[.ref σ.len])):=aA (h14 9 mr (by decide) hfr).symm (aX (by rw [l1];exact JS (C.lt (by decide)) (JU _ _)))
 have e9:(S.mzz.map ov++[V.ref σ.len])[S.mzz.length]? =some (.ref σ.len):=by
  rw [List.getElem?_append_right (by rw [List.length_map];exact Kd _),Km,Nat.sub_self];rfl
 apply yG (pS rfl)
 refine Eu (h (i:=0) (by decide) (by decide) C.inst) g9 e9 (h (by decide) (by decide) C.tz) ht gn hfl hnm ?_
 refine bj (pX rfl) (k _ ⟨h (i:=0) (by decide) (by decide) C.inst,C.kt.frame (by rw [l2];exact JU _ _) λ n a b=>?_,h (by decide) (by decide) C.flds,by rw [List.map_append];exact g9,C.names.imp λ l e=>⟨h (by decide) (by decide) e.1,e.2⟩,h (by decide) (by decide) C.az,h (by decide) (by decide) C.tz,by rw [l2];exact JT C.len (JU _ _),λ i n' a e=>?_⟩ l2 gn ?_ F)
 ·have:n<p+9:=JS b (JW (by decide) p)
  exact F n (JY this (C.lt (by decide))) (J5 this) (J5 (JS this (JT (JW (by decide) p) hfr)))
 ·have t:=C.ti i n' a e
  refine ⟨t.1,by rw [l2];exact JS t.2.1 (JU _ _),t.2.2.imp λ as x=>⟨(F n' t.2.1 (h14 9 n' (by decide) t.1) λ e=>?_).trans x.1,x.2⟩⟩
  rw [←e,x.1] at hf;cases hf
 ·rw [List.map_append]
  exact aX (by rw [aj,l1];exact JS hfl' (JU _ _))
theorem zB {C:ak} {ρ:ax} {σ:St} {m:Nat} (h:σ.len=m):∀Q,Q (.ref m) (σ.new (.list aa []))→aH C (.list []) ρ σ Q:=λ Q q=>kX rfl Q (h.symm▸q)
theorem setN {C:ak} {ρ:ax} {σ σ':St} {l:List Y} {i:Nat} {v:V} {x:X} {Q:Option V→ax→St→Prop} (hx:∀Q,Q v σ'→aH C x ρ σ Q) (q:ah C l (d9 ρ i v) σ' Q):ah C (.set (.loc i) x::l) ρ σ Q:=hx _ q
theorem so {C:ak} {ρ:ax} {σ σ':St} {l:List Y} {r:Nat} {o o':Mine.O} {v:V} {n:String} {x ob:X} {Q:Option V→ax→St→Prop} (hx:∀Q,Q v σ'→aH C x ρ σ Q) (ho:∀Q,Q (.ref r) σ'→aH C ob ρ σ' Q) (g:σ'.get r=some o) (h:yu o n v=some o') (q:ah C l ρ (σ'.put r o') Q):ah C (.set (.attr ob n) x::l) ρ σ Q:=
 hx _ (ho _ (sp g h q))
structure Gn (σ0:St) (n b:Nat) (o:Mine.O) (os:List Mine.O) (σ:St):Prop where
 B:c7 σ b os
 len:σ.len=b+os.length
 g:σ.get n=some o
 fr:∀k,k<b→k≠n→σ.get k=σ0.get k
 hn:n<b
section
variable {σ0 σ:St} {n b:Nat} {o:Mine.O} {os:List Mine.O}
theorem Gn.new {o':Mine.O} (I:Gn σ0 n b o os σ):Gn σ0 n b o (os++[o']) (σ.new o'):=
 have h:∀k,k<b→k<σ.len:=λ k h=>by rw [I.len];exact JS h (JU b _)
 ⟨I.B.snoc I.len,by rw [aD,I.len,List.length_append];rfl,bT I.g,λ k h1 h2=>(aP (h k h1)).trans (I.fr k h1 h2),I.hn⟩
theorem Gn.put {i:Nat} {o':Mine.O} (I:Gn σ0 n b o os σ) (h:i<os.length):Gn σ0 n b o (os.set i o') (σ.put (b+i) o'):=
 have h':∀k,k<b→k≠b+i:=λ k h=>J5 (JS h (JU b i))
 ⟨I.B.put h,by rw [aj,I.len,List.length_set],aA (h' n I.hn) I.g,λ k h1 h2=>(aR (h' k h1)).trans (I.fr k h1 h2),I.hn⟩
theorem Gn.upd {o':Mine.O} (I:Gn σ0 n b o os σ):Gn σ0 n b o' os (σ.put n o'):=
 ⟨⟨λ i yy e=>aA (J8 (JS I.hn (JU b i))) (I.B.g i e)⟩,aj.trans I.len,aX (ac I.g),λ k h1 h2=>(aR h2).trans (I.fr k h1 h2),I.hn⟩
theorem Gn.old {k:Nat} {o':Mine.O} (I:Gn σ0 n b o os σ) (h:σ0.len=b) (hk:k≠n) (g:σ0.get k=some o'):σ.get k=some o':=(I.fr k (h▸ac g) hk).trans g
end
theorem Gn.of {σ:St} {n:Nat} {o:Mine.O} (g:σ.get n=some o):Gn σ n σ.len o [] σ:=⟨⟨λ yy yy h=>nomatch h⟩,rfl,g,λ yy yy yy=>rfl,ac g⟩
theorem mn {d p mid n tid fl gn gb ret gl bl:Nat} {name:String} {ks:List Nat} {body:V} {us:List String} {S:AS} {σ:St} {Q:V→St→Prop} (C:SC σ p S) (hm:S.mzz[mid]? =some (some n)) (hn:σ.get n=some (oj mid tid name fl 0 gn gb ret ks body)) (hu:us=[]∨us=["U"])
  (hg:σ.get gl=some (.list aa (us.map V.str))) (hgn:gl≠n) (hb:σ.get bl=some (.list aa []))
  (k:∀σ',σ'.len=σ.len+2→σ'.get n=some (oj mid tid name fl us.length σ.len (σ.len+1) ret ks body)→σ'.get σ.len=some (.list aa (us.map V.str))→σ'.get (σ.len+1)=some (.list aa (us.map λ yy=>.tup [.int 0,.tup []]))→(∀k,k<σ.len→k≠n→σ'.get k=σ.get k)→Q .none σ'):
  aw (d+1) (.g "set_generic") [.ref p,.int mid,.ref gl,.ref bl] σ Q:=by
 have hbn:bl≠n:=λ e=>by rw [e,hn] at hb;cases hb
 refine go mw rfl ?_
 apply br (by dsimp! [C.inst,bp C.mzz hm])
 apply FN (by dsimp! [bH hg (congrArg some (List.length_map _))]) (pX rfl) hn rfl
 have I:=(Gn.of hn).upd (o':=oj mid tid name fl us.length gn gb ret ks body)
 apply so (zB I.len) (pX rfl) (I.new (o':=.list aa [])).g rfl
 have I:=(I.new (o':=.list aa [])).upd (o':=oj mid tid name fl us.length σ.len gb ret ks body)
 apply so (zB I.len) (pX rfl) (I.new (o':=.list aa [])).g rfl
 have I:=(I.new (o':=.list aa [])).upd (o':=oj mid tid name fl us.length σ.len (σ.len+1) ret ks body)
 refine dl (nW (n:=us.length) (λ Q q=>bH (I.old rfl hgn hg) (congrArg some (Km _)) q) (by rcases hu with rfl|rfl<;>decide)) ?_
 rcases hu with rfl|rfl
 ·exact ⟨trivial,k _ I.len I.g (I.B.g 0 rfl) (I.B.g 1 rfl) I.fr⟩
 ·show c2 _ _ [.int 0] _ _ _
  refine ⟨trivial,?_⟩
  apply cJ (by dsimp! [I.g]) (I.B.g 0 rfl) (by dsimp! [(I.old rfl hgn hg)]) (show 0<aN by decide)
  have I:=I.put (i:=0) (o':=.list aa [.str "U"]) (show 0<2 by decide)
  apply ay (by dsimp! [bH (I.old rfl hbn hb) rfl,GG (show ¬(0:Int)<0 by decide)])
  apply cJ (by dsimp! [I.g]) (I.B.g 1 rfl) (by dsimp!) (show 0<aN by decide)
  have I:=I.put (i:=1) (o':=.list aa [.tup [.int 0,.tup []]]) (show 1<2 by decide)
  exact ⟨trivial,k _ I.len I.g (I.B.g 0 rfl) (I.B.g 1 rfl) I.fr⟩
noncomputable def rD (c:Nat):Mine.O:=.inst aa "Body" [("locals_",.tup []),("maxstack",.int 8),("code",.ref c),("clauses",.ref (c+1))]
theorem xi {guard:St→Prop} {f:V→ax→St→(Option V→ax→St→Prop)→Prop} {Q:Option V→ax→St→Prop} (I:List V→ax→St→Prop) (h0:∀ρ σ,I [] ρ σ→guard σ∧Q none ρ σ)
  (h1:∀a l ρ σ,I (a::l) ρ σ→guard σ∧∀K:Option V→ax→St→Prop,(∀ρ' σ',I l ρ' σ'→K none ρ' σ')→f a ρ σ K) {l:List V} {ρ:ax} {σ:St} (i:I l ρ σ):c2 guard f l ρ σ Q:=
 List.map_id l▸fu (g:=id) I h0 h1 i
theorem tf {d p mid n tid fl ng gn gb ret cz bl:Nat} {name:String} {ks:List Nat} {body:V} {cv:List V} {S:AS} {σ:St} {Q:V→St→Prop} (C:SC σ p S) (hm:S.mzz[mid]? =some (some n)) (hn:σ.get n=some (oj mid tid name fl ng gn gb ret ks body))
  (hc:σ.get cz=some (.list aa cv)) (hcl:cv.length<1000) (hb:σ.get bl=some (.list aa []))
  (k:∀σ',σ'.len=σ.len+3→σ'.get n=some (oj mid tid name fl ng gn gb ret ks (.ref (σ.len+2)))→σ'.get (σ.len+2)=some (rD σ.len)→σ'.get σ.len=some (.list aa cv)→σ'.get (σ.len+1)=some (.list aa [])→(∀k,k<σ.len→k≠n→σ'.get k=σ.get k)→Q .none σ'):
  aw (d+2) (.g "set_body") [.ref p,.int mid,.tup [],.int 8,.ref cz,.ref bl] σ Q:=by
 have hnc:cz≠n:=λ e=>by rw [e,hn] at hc;cases hc
 have hnb:bl≠n:=λ e=>by rw [e,hn] at hb;cases hb
 refine go tC rfl ?_
 show ah _ (.for_ false [7] (.loc 4) _::_) [some (.ref p),some (.int mid),some (.tup []),some (.int 8),some (.ref cz),some (.ref bl),some (.ref σ.len),none,none,none] (σ.new (.list aa [])) _
 apply dl (by dsimp! [gu (bT hc)])
 have I0:=(Gn.of hn).new (o':=.list aa [])
 refine xi (λ l ρ s=>∀P:Prop,(∀done x,done++l=cv→Gn σ n σ.len (oj mid tid name fl ng gn gb ret ks body) [.list aa done] s→ρ=[some (.ref p),some (.int mid),some (.tup []),some (.int 8),some (.ref cz),some (.ref bl),some (.ref σ.len),x,none,none]→P)→P)
  (λ ρ s i=>i _ λ done x e I e'=>⟨I.old rfl hnc hc,?_⟩) (λ a l ρ s i=>i _ λ done x e I e'=>⟨I.old rfl hnc hc,λ K hK=>?_⟩) λ P k=>k [] none rfl I0 rfl
 ·subst e'
  rw [List.append_nil] at e
  subst e
  apply setN (zB I.len)
  have I:=I.new (o':=.list aa [])
  apply dl (by dsimp! [gu (I.old rfl hnb hb)])
  refine ⟨I.old rfl hnb hb,?_⟩
  refine bq (sI (n:=σ.len+2) (vs:=[.tup [],.int 8,.ref σ.len,.ref (σ.len+1)]) (λ Q q=>yV q) I.len ?_)
  have J:=Gr.one (σ:=s.new (.list aa [])|>.new (.inst aa "Body" [])) (gY I.len.symm) (eb I.len)
  refine go rV rfl (dI rfl 4 (os':=[rD σ.len]) rfl J λ s2 J2=>⟨rfl,?_⟩)
  have I2:Gn σ n σ.len (oj mid tid name fl ng gn gb ret ks body) [.list aa done,.list aa [],rD σ.len] s2:=by
   have f:∀k,k<σ.len+2→s2.get k=(s.new (.list aa [])).get k:=λ k h=>(J2.fr k h).trans (aP (by rw [I.len];exact h))
   refine ⟨⟨λ i o e=>?_⟩,J2.len,(f n (Ks 2 I.hn)).trans I.g,λ k h1 h2=>(f k (Ks 2 h1)).trans (I.fr k h1 h2),I.hn⟩
   match i,e with
   |0,e=>exact (f _ (J0 (by decide) _)).trans (I.B.g 0 e)
   |1,e=>exact (f _ (J0 (by decide) _)).trans (I.B.g 1 e)
   |2,e=>exact J2.B.g 0 e
   |i+3,e=>exact nomatch e
  have np:p≠n:=λ e=>by
   rw [←e,C.inst] at hn
   injection hn with h;injection h with _ h;exact absurd h (by decide)
  have np9:p+9≠n:=λ e=>by rw [←e,C.mzz] at hn;cases hn
  apply cj (I2.old rfl np C.inst) rfl
  apply bp (I2.old rfl np9 C.mzz) hm
  refine sp I2.g rfl ?_
  have I3:=I2.upd (o':=oj mid tid name fl ng gn gb ret ks (.ref (σ.len+2)))
  exact k _ I3.len I3.g (I3.B.g 2 rfl) (I3.B.g 0 rfl) (I3.B.g 1 rfl) I3.fr
 ·subst e'
  apply cJ (by dsimp!) (I.B.g 0 rfl) (by dsimp!) (by have:=congrArg List.length e;rw [List.length_append,List.length_cons] at this;exact JV (JT (JU _ _) (J3 this)) (JY hcl (by decide)))
  exact hK _ _ λ P k=>k (done++[a]) _ (by rw [List.append_assoc];exact e) (I.put (i:=0) (show 0<1 by decide)) rfl
theorem th {d z:Nat} {l:List V} {v:V} {σ:St} {Q:V→St→Prop} (hz:σ.get z=some (.list aa l)) (hl:l.length<1000) (hp:pu 8 v=true) (hpl:pus 8 l=true)
  (k:Q .none (σ.put z (.list aa (if v∈l then l else l++[v])))) (k0:v∈l→Q .none σ):aw (d+1) (.g "put_once") [.ref z,v] σ Q:=by
 have t:∀Q:Bool→St→Prop,Q (!decide (v∈l)) σ→fe (aw d) (.cmp .notin (.loc 1) (.loc 0)) [some (.ref z),some v] σ Q:=λ Q q=>n9 (fq hz hp hpl q)
 refine go tD rfl ?_
 by_cases h:v∈l
 ·exact ay (λ Q q=>t Q (by rw [decide_eq_true h];exact q)) (k0 h)
 ·refine aU (λ Q q=>t Q (by rw [decide_eq_false h];exact q)) ?_
  apply cJ (by dsimp!) hz (by dsimp!) (JY hl (by decide))
  rw [if_neg h] at k
  exact k
noncomputable def d8 (l:List V) (v:V):List V:=if v∈l then l else l++[v]
theorem lS {d p n i:Nat} {l:List V} {v:V} {S:AS} {σ:St} {Q:V→St→Prop} (C:SC σ p S) (hn:p+14≤n) (hz:σ.get (n+i)=some (.list aa l)) (hl:l.length<1000) (hp:pu 8 v=true) (hpl:pus 8 l=true)
  (k:∀σ',SC σ' p S→σ'.len=σ.len→σ'.get (n+i)=some (.list aa (d8 l v))→(∀k,k≠n+i→σ'.get k=σ.get k)→Q .none σ'):aw (d+1) (.g "put_once") [.ref (n+i),v] σ Q:=by
 refine th hz hl hp hpl (k _ ?_ aj (aX (ac hz)) λ k h=>aR h) λ hm=>k σ C rfl (by rw [hz,d8,if_pos hm]) λ yy yy=>rfl
 refine C.frame (J3 aj.symm) (λ k yy b=>aR (J5 (JS b (JT hn (JU n i))))) λ j n' a e=>?_
 refine (C.ti j n' a e).2.2.imp λ as x=>⟨aA (λ e=>?_) x.1,x.2⟩
 rw [←e,x.1] at hz;cases hz
section
variable {d p tid n fr mr asm cc fi:Nat} {tn:String} {l:List V} {S:AS} {σ:St} {Q:V→St→Prop} (C:SC σ p S) (ht:S.tz[tid]? =some (some (n,asm))) (hn:σ.get n=some (cU n tid tn fr mr asm cc fi)) (hl:l.length<1000) (hpl:pus 8 l=true)
include C ht hn hl hpl
theorem tr {b o m:V} (hz:σ.get (n+7)=some (.list aa l)) (hp:pu 8 (.tup [b,o,m])=true)
  (k:∀σ',SC σ' p S→σ'.len=σ.len→σ'.get (n+7)=some (.list aa (d8 l (.tup [b,o,m])))→(∀k,k≠n+7→σ'.get k=σ.get k)→Q .none σ'):
  aw (d+2) (.g "add_impl") [.ref p,.int tid,b,o,m] σ Q:=by
 refine go tM rfl ?_
 apply yG (vs:=[.ref (n+7),.tup [b,o,m]]) (by dsimp! [C.inst,bp C.tz ht,hn])
 exact lS C (C.ti tid n asm ht).1 hz hl hp hpl k
theorem tq {a b g s i:V} (hz:σ.get (n+8)=some (.list aa l)) (hp:pu 8 (.tup [a,b,g,s,i])=true)
  (k:∀σ',SC σ' p S→σ'.len=σ.len→σ'.get (n+8)=some (.list aa (d8 l (.tup [a,b,g,s,i])))→(∀k,k≠n+8→σ'.get k=σ.get k)→Q .none σ'):
  aw (d+2) (.g "add_prop") [.ref p,.int tid,a,b,g,s,i] σ Q:=by
 refine go tL rfl ?_
 apply yG (vs:=[.ref (n+8),.tup [a,b,g,s,i]]) (by dsimp! [C.inst,bp C.tz ht,hn])
 exact lS C (C.ti tid n asm ht).1 hz hl hp hpl k
theorem rC {a b g s:V} (hz:σ.get (n+9)=some (.list aa l)) (hp:pu 8 (.tup [a,b,g,s])=true)
  (k:∀σ',SC σ' p S→σ'.len=σ.len→σ'.get (n+9)=some (.list aa (d8 l (.tup [a,b,g,s])))→(∀k,k≠n+9→σ'.get k=σ.get k)→Q .none σ'):
  aw (d+2) (.g "add_event") [.ref p,.int tid,a,b,g,s] σ Q:=by
 refine go rU rfl ?_
 apply yG (vs:=[.ref (n+9),.tup [a,b,g,s]]) (by dsimp! [C.inst,bp C.tz ht,hn])
 exact lS C (C.ti tid n asm ht).1 hz hl hp hpl k
end
structure AS.le (S S':AS):Prop where
 rows:S.rows<+:S'.rows
 tz:S.tz<+:S'.tz
 flds:S.flds<+:S'.flds
 mzz:S.mzz<+:S'.mzz
 az:S.az<+:S'.az
theorem AS.le.rfl' {S:AS}:S.le S:=⟨J1 _,J1 _,J1 _,J1 _,J1 _⟩
theorem AS.le.trans {S S' S'':AS} (a:S.le S') (b:S'.le S''):S.le S'':=⟨a.rows.trans b.rows,a.tz.trans b.tz,a.flds.trans b.flds,a.mzz.trans b.mzz,a.az.trans b.az⟩
noncomputable def dN (rows:List aF) (o:bJ):List String→List Nat→Prop
 |[],[]=>True
 |p::ps,k::ks=>c4 rows o (aT p) k∧dN rows o ps ks
 |_,_=>False
theorem dN.len {rows:List aF} {o:bJ}:∀{ps:List String} {ks:List Nat},dN rows o ps ks→ks.length=ps.length
 |[],[],_=>rfl
 |p::ps,k::ks,h=>congrArg Nat.succ (dN.len h.2)
 |[],_::_,h=>h.elim
 |_::_,[],h=>h.elim
theorem dN.mono {rows rows':List aF} {o:bJ} (h:rows<+:rows'):∀{ps:List String} {ks:List Nat},dN rows o ps ks→dN rows' o ps ks
 |[],[],_=>trivial
 |p::ps,k::ks,q=>⟨q.1.mono h,dN.mono h q.2⟩
 |[],_::_,h=>h.elim
 |_::_,[],h=>h.elim
theorem dN.snoc {rows:List aF} {o:bJ} {p:String} {k:Nat} (hk:c4 rows o (aT p) k):∀{ps:List String} {ks:List Nat},dN rows o ps ks→dN rows o (ps++[p]) (ks++[k])
 |[],[],_=>⟨hk,trivial⟩
 |q::ps,j::ks,h=>⟨h.1,dN.snoc hk h.2⟩
 |[],_::_,h=>h.elim
 |_::_,[],h=>h.elim
noncomputable def FF (σ:St) (S:AS) (o:bJ) (lo:Nat) (t:Bool) (r:Fr) (fid:Nat):Prop:=∃n k:Nat,S.flds[fid]? =some (some n)∧lo≤n∧n<σ.len∧σ.get n=some (IC fid (o.t t) r.nm k)∧c4 S.rows o (aT r.tm) k
noncomputable def MF (σ:St) (S:AS) (o:bJ) (lo:Nat) (t:Bool) (r:Mr) (mid:Nat) (body:V):Prop:=∃(n gn gb ret:Nat) (ks:List Nat),S.mzz[mid]? =some (some n)∧(lo≤n∧n<σ.len)∧(lo≤gn∧gn<σ.len)∧(lo≤gb∧gb<σ.len)∧σ.get n=some (oj mid (o.t t) r.nm r.s r.g gn gb ret ks body)∧
 σ.get gn=some (.list aa ((List.replicate r.g "U").map V.str))∧σ.get gb=some (.list aa ((List.replicate r.g "U").map λ yy=>.tup [.int 0,.tup []]))∧c4 S.rows o (aT r.ret) ret∧dN S.rows o r.ps ks
theorem FF.mono {σ σ':St} {S S':AS} {o:bJ} {lo:Nat} {t:Bool} {r:Fr} {fid:Nat} (h:FF σ S o lo t r fid) (hS:S.le S') (hl:σ.len≤σ'.len) (hf:∀k,lo≤k→k<σ.len→σ'.get k=σ.get k):FF σ' S' o lo t r fid:=
 h.imp λ n h=>h.imp λ yy h=>⟨ba hS.flds h.1,h.2.1,JS h.2.2.1 hl,(hf n h.2.1 h.2.2.1).trans h.2.2.2.1,h.2.2.2.2.mono hS.rows⟩
theorem MF.el {σ:St} {S:AS} {o:bJ} {lo:Nat} {t:Bool} {r:Mr} {mid:Nat} {body:V} (h:MF σ S o lo t r mid body) {P:Prop} (k:∀(n gn gb ret:Nat) (ks:List Nat),S.mzz[mid]? =some (some n)→(lo≤n∧n<σ.len)→(lo≤gn∧gn<σ.len)→(lo≤gb∧gb<σ.len)→σ.get n=some (oj mid (o.t t) r.nm r.s r.g gn gb ret ks body)→
 σ.get gn=some (.list aa ((List.replicate r.g "U").map V.str))→σ.get gb=some (.list aa ((List.replicate r.g "U").map λ yy=>.tup [.int 0,.tup []]))→c4 S.rows o (aT r.ret) ret→dN S.rows o r.ps ks→P):P:=by
 obtain ⟨n,gn,gb,ret,ks,h1,h2,h3,h4,h5,h6,h7,h8,h9⟩:=h
 exact k n gn gb ret ks h1 h2 h3 h4 h5 h6 h7 h8 h9
theorem MF.mono {σ σ':St} {S S':AS} {o:bJ} {lo:Nat} {t:Bool} {r:Mr} {mid:Nat} {b:V} (h:MF σ S o lo t r mid b) (hS:S.le S') (hl:σ.len≤σ'.len) (hf:∀k,lo≤k→k<σ.len→σ'.get k=σ.get k):MF σ' S' o lo t r mid b:=
 h.el λ n gn gb ret ks h1 h2 h3 h4 h5 h6 h7 h8 h9=>⟨n,gn,gb,ret,ks,ba hS.mzz h1,⟨h2.1,JS h2.2 hl⟩,⟨h3.1,JS h3.2 hl⟩,⟨h4.1,JS h4.2 hl⟩,(hf n h2.1 h2.2).trans h5,(hf gn h3.1 h3.2).trans h6,(hf gb h4.1 h4.2).trans h7,h8.mono hS.rows,h9.mono hS.rows⟩
noncomputable def kF (t:Bool) (r:Fr):V:=.tup [.str "fields",.int (bn t:Nat),r.v]
noncomputable def kM (t:Bool) (r:Mr):V:=.tup [.str "methods",.int (bn t:Nat),r.v]
theorem xx {t:Bool} {r:Fr}:kk 2 (.tup [.str "fields",.int (bn t:Nat),r.v])=true:=rfl
theorem rf {n:Nat}:∀{l:List String},eL n (l.map V.str)=true
 |[]=>by cases n<;>rfl
 |a::l=>by
  have:=rf (n:=n) (l:=l)
  cases n<;>exact this
theorem eX {t:Bool} {r:Mr}:kk 2 (.tup [.str "methods",.int (bn t:Nat),r.v])=true:=by
 show (eL 4 (r.ps.map V.str) && true && true)=true
 rw [rf];rfl
theorem i8 {a a' b b':V} {i i':Int} (h:V.tup [a,.int i,b]=.tup [a',.int i',b']):a=a'∧i=i'∧b=b':=by
 injection h with h
 injection h with h1 h
 injection h with h2 h
 injection h with h3
 exact ⟨h1,V.int.inj h2,h3⟩
theorem Ct {t t':Bool} {r r':Fr} (h:kF t r=kF t' r'):t=t'∧r=r':=⟨hH (K5 (i8 h).2.1),Fr.v_inj (i8 h).2.2⟩
theorem Cs {t t':Bool} {r r':Mr} (h:kM t r=kM t' r'):t=t'∧r=r':=⟨hH (K5 (i8 h).2.1),Mr.v_inj (i8 h).2.2⟩
theorem kS {t t':Bool} {r:Fr} {r':Mr}:kF t r≠kM t' r':=λ h=>absurd (V.str.inj (i8 h).1) (by decide)
structure LS (σ:St) (p B:Nat) (S:AS) (o:bJ) (nl:List (V×V)):Prop where
 C:SC σ p S
 own:σ.get (B+24)=some (.list aa [vi o.a,vi o.b,vi o.l])
 num:σ.get (B+25)=some (.dict aa 2 nl)
 ok:o.Ok
 b:p+14≤B
 len:B+26≤σ.len
theorem SC.kt_upd {σ σ':St} {p:Nat} {S:AS} {rows:List aF} (C:SC σ p S) (T:eZ σ' p rows) (hl:σ.len≤σ'.len) (hf:∀n,n<σ.len→n<p+2∨p+7≤n→σ'.get n=σ.get n):SC σ' p {S with rows:=rows}:=by
 have g:∀i,8≤i→i<14→∀{o},σ.get (p+i)=some o→σ'.get (p+i)=some o:=λ i a b yy e=>(hf _ (C.lt b) (.inr (JW (Kx a) p))).trans e
 refine ⟨(hf _ (C.lt (i:=0) (by decide)) (.inl (KD (by decide)))).trans C.inst,T,g 8 (by decide) (by decide) C.flds,g 9 (by decide) (by decide) C.mzz,C.names.imp λ l e=>⟨g 10 (by decide) (by decide) e.1,e.2⟩,g 11 (by decide) (by decide) C.az,g 13 (by decide) (by decide) C.tz,JT C.len hl,λ i n a e=>?_⟩
 have t:=C.ti i n a e
 exact ⟨t.1,JS t.2.1 hl,t.2.2.imp λ as x=>⟨(hf _ t.2.1 (.inr (JT (JW (by decide) p) t.1))).trans x.1,x.2⟩⟩
theorem LS.kind {d p B:Nat} {S:AS} {o:bJ} {nl:List (V×V)} {t:String} {σ:St} {Q:V→St→Prop} (L:LS σ p B S o nl) (hs:S.size<80000) (ht:t∈bB)
  (k:∀(k:Nat) rows' σ',LS σ' p B {S with rows:=rows'} o nl→S.rows<+:rows'→rows'.length≤S.rows.length+2→c4 rows' o (aT t) k→σ.len≤σ'.len→(∀n,n<σ.len→n<p+2∨p+7≤n→σ'.get n=σ.get n)→Q (.int k) σ'):
  aw (d+9) (.g "_law_kind") [.ref (p+1),.ref (B+24),.str t] σ Q:=by
 have hr:S.rows.length+2<100000:=dR 2 (JV AS.sz_rows hs) rfl
 refine tj L.C.kt L.ok hr L.own ht λ k' rows' σ' h1 h2 h3 h4 h5 h6=>?_
 have g:∀i,i<26→∀{o},σ.get (B+i)=some o→σ'.get (B+i)=some o:=λ i a yy e=>(h6 _ (JS (J0 a B) L.len) (.inr (JT (JW (by decide) p) (JT L.b (JU B i))))).trans e
 exact k k' rows' σ' ⟨L.C.kt_upd h1 h5 h6,g 24 (by decide) L.own,g 25 (by decide) L.num,L.ok,L.b,JT L.len h5⟩ h2 h3 h4 h5 h6
theorem eo {α:Type} {guard:St→Prop} {f:V→St→(Option V→St→Prop)→Prop} {Q:List V→St→Prop} {g:α→V} (I:List α→List V→St→Prop) (h0:∀acc σ,I [] acc σ→guard σ∧Q acc σ)
  (h1:∀a l acc σ,I (a::l) acc σ→guard σ∧∀K:Option V→St→Prop,(∀y σ',I l (acc++[y]) σ'→K (some y) σ')→(∀σ',I l acc σ'→K none σ')→f (g a) σ K):∀{l:List α} {acc:List V} {σ:St},I l acc σ→er guard f (l.map g) acc σ Q
 |[],acc,σ,i=>h0 acc σ i
 |a::l,acc,σ,i=>⟨(h1 a l acc σ i).1,(h1 a l acc σ i).2 _ (λ yy yy i'=>eo I h0 h1 i') λ yy i'=>eo I h0 h1 i'⟩
theorem LS.kinds {D p B:Nat} {S:AS} {o:bJ} {nl:List (V×V)} {ps:List String} {σ:St} {Q:List V→St→Prop} (L:LS σ p B S o nl) (hs:S.size<70000) (hp:∀t∈ps,t∈bB) (hps:ps.length≤2)
  (k:∀(ks:List Nat) rows' σ',LS σ' p B {S with rows:=rows'} o nl→S.rows<+:rows'→rows'.length≤S.rows.length+4→dN rows' o ps ks→σ.len≤σ'.len→(∀n,n<σ.len→n<p+2∨p+7≤n→σ'.get n=σ.get n)→Q (ks.map vi) σ'):
  er (λ yy=>True) (λ v σ2 K=>aw (D+9) (.g "_law_kind") [.ref (p+1),.ref (B+24),v] σ2 λ v σ1=>K (some v) σ1) (ps.map V.str) [] σ Q:=by
 refine eo (λ l acc s=>∀P:Prop,(∀done (ks:List Nat) (rows':List aF),done++l=ps→acc=ks.map vi→LS s p B {S with rows:=rows'} o nl→S.rows<+:rows'→rows'.length≤S.rows.length+2*done.length→dN rows' o done ks→σ.len≤s.len→(∀n,n<σ.len→n<p+2∨p+7≤n→s.get n=σ.get n)→P)→P)
  (λ acc s i=>i _ λ done ks rows' e e' L' h1 h2 h3 h4 h5=>⟨trivial,?_⟩) (λ t l acc s i=>i _ λ done ks rows' e e' L' h1 h2 h3 h4 h5=>⟨trivial,λ K hK yy=>?_⟩) λ P k=>k [] [] S.rows rfl rfl L (J1 _) (Kd _) trivial (Kd _) λ yy yy yy=>rfl
 ·rw [List.append_nil] at e
  subst e;subst e'
  exact k ks rows' s L' h1 (JT h2 (JW (KJ 2 hps) _)) h3 h4 h5
 ·subst e'
  have hl:done.length+(l.length+1)≤2:=by rw [←e,List.length_append] at hps;exact hps
  have hsz:AS.size {S with rows:=rows'}<80000:=AS.szL hs h2 (JT (JW (KJ 2 (JT (JU _ _) hl)) _) (by decide))
  refine L'.kind hsz (hp t (by rw [←e];exact KS _ Ky)) λ k' rows2 s2 L2 g1 g2 g3 g4 g5=>?_
  exact hK _ _ λ P k=>k (done++[t]) (ks++[k']) rows2 (by rw [List.append_assoc];exact e) (by rw [List.map_append];rfl) L2 (h1.trans g1) (by rw [List.length_append];exact nk g2 h2) (dN.snoc g3 (h3.mono g1)) (JT h4 g4) λ n hn hn2=>(g5 n (JS hn h4) hn2).trans (h5 n hn hn2)
noncomputable def jW (turn n i:Nat):Nat:=if turn / 4 % 2=0 then n - 1 - (i+turn) % n else (i+turn) % n
theorem GV {turn n i:Nat} (h:0<n):jW turn n i<n:=
 iteInduction (motive:=(· <n)) (λ yy=>JV (Nat.sub_le _ _) (Nat.sub_lt h Nat.one_pos)) λ yy=>K2 _ h
theorem xF {t n c:Nat} (h:2≤n) (hc:c<n):∃i,i<n∧jW t n i=c:=by
 have h0:0<n:=KU h
 have e:n - t % n+t=n*(t / n+1):=(congrArg (n - t % n+·) (Nat.mod_add_div t n).symm).trans ((Lh _ _ _).symm.trans ((congrArg (· +n*(t / n)) (Nat.sub_add_cancel (Kb (K2 t h0)))).trans (Nat.add_comm _ _)))
 have key:∀c,c<n→((c+(n - t % n)) % n+t) % n=c:=λ c hc=>(Nat.mod_add_mod _ _ _).trans (by rw [Nat.add_assoc,e,Nat.add_mul_mod_self_left,Nat.mod_eq_of_lt hc])
 refine (Decidable.em (t / 4 % 2=0)).elim (λ h=>⟨_,K2 _ h0,(if_pos h).trans ((congrArg (n - 1 - ·) (key (n - 1 - c) ?_)).trans (Nat.sub_sub_self (Nat.le_sub_one_of_lt hc)))⟩) λ h=>⟨_,K2 _ h0,(if_neg h).trans (key c hc)⟩
 exact JV (Nat.sub_le _ _) (Nat.sub_lt h0 Nat.one_pos)
noncomputable abbrev Rm (p B q:Nat) (t:Bool) (turn:Nat) (nm:String) (l:List (Option V)):ax:=[some (.ref p),some (.ref (B+24)),some (.ref q),some (.int (bn t:Nat)),some (.int turn),some (.ref (B+25)),some (.ref (p+1)),some (.str nm)]++l
noncomputable def ue:List Y:=[.ite (.cmp .eq (.loc 7) (.str "fields")) [.set (.loc 12) (.call "add_field" [.loc 0,.sub (.loc 1) (.loc 3),.sub (.loc 11) (.int 0),.call "_law_kind" [.loc 6,.loc 1,.sub (.loc 11) (.int 1)],.int 6,.int 0])] [.set (.loc 13) (.comp (.call "_law_kind" [.loc 0,.loc 1,.loc 2]) [6,1] false 1 (.sub (.loc 11) (.int 4)) []),.set (.loc 12) (.call "add_method" [.loc 0,.sub (.loc 1) (.loc 3),.sub (.loc 11) (.int 0),.int 6,.sub (.loc 11) (.int 2),.call "_law_kind" [.loc 6,.loc 1,.sub (.loc 11) (.int 3)],.loc 13]),.ex (.call "set_generic" [.loc 0,.loc 12,.slTo (.list [.str "U"]) (.sub (.loc 11) (.int 1)),.list []])],.set (.sub (.loc 5) (.tup [.loc 7,.loc 3,.loc 11])) (.loc 12)]
structure Mk (p B x:Nat) (σ:St) (S:AS) (c:Nat) (σ':St) (S':AS):Prop where
 le:S.le S'
 sz:S'.size≤S.size+c
 ty:S'.tz=S.tz
 as_:S'.az=S.az
 len:σ.len≤σ'.len
 fr:∀k,k<σ.len→(k<p∨p+14≤k)→k≠B+25→k≠x→σ'.get k=σ.get k
theorem Mk.rfl' {p B x c:Nat} {σ:St} {S:AS}:Mk p B x σ S c σ S:=⟨.rfl',JU _ _,rfl,rfl,Kd _,λ yy yy yy yy yy=>rfl⟩
theorem Mk.trans {p B x c c':Nat} {σ σ' σ'':St} {S S' S'':AS} (a:Mk p B x σ S c σ' S') (b:Mk p B x σ' S' c' σ'' S''):Mk p B x σ S (c+c') σ'' S'':=
 ⟨a.le.trans b.le,JT b.sz (Lh S.size c c'▸Ki a.sz c'),b.ty.trans a.ty,b.as_.trans a.as_,JT a.len b.len,λ k h1 h2 h3 h4=>(b.fr k (JS h1 a.len) h2 h3 h4).trans (a.fr k h1 h2 h3 h4)⟩
theorem Mk.le' {p B x c c':Nat} {σ σ':St} {S S':AS} (a:Mk p B x σ S c σ' S') (h:c≤c'):Mk p B x σ S c' σ' S':=⟨a.le,JT a.sz (JW h _),a.ty,a.as_,a.len,a.fr⟩
theorem Mk.put {p B x c:Nat} {σ σ':St} {S S':AS} {o:O} (a:Mk p B x σ S c σ' S'):Mk p B x σ S c (σ'.put (B+25) o) S':=
 ⟨a.le,a.sz,a.ty,a.as_,JT a.len (J3 aj.symm),λ k h1 h2 h3 h4=>(aR h3).trans (a.fr k h1 h2 h3 h4)⟩
theorem Mk.hi {p B x c:Nat} {σ σ':St} {S S':AS} (a:Mk p B x σ S c σ' S') (hb:p+14≤B) (hx:x<B+26):∀k,B+26≤k→k<σ.len→σ'.get k=σ.get k:=λ k h h2=>
 a.fr k h2 (.inr (JT hb (JT (JU B 26) h))) (J8 h) (J8 (JS hx h))
theorem LS.put {p B:Nat} {S:AS} {o:bJ} {nl nl':List (V×V)} {σ:St} (L:LS σ p B S o nl):LS (σ.put (B+25) (.dict aa 2 nl')) p B S o nl':=by
 have hl:σ.len≤(σ.put (B+25) (.dict aa 2 nl')).len:=J3 aj.symm
 refine ⟨L.C.frame hl (λ k yy h=>aR (J5 (JS h (JT L.b (JU B 25))))) λ i n a e=>?_,aA (nf rfl) L.own,aX (JS (Kc _) L.len),L.ok,L.b,JT L.len hl⟩
 refine (L.C.ti i n a e).2.2.imp λ as x=>⟨aA (λ h=>?_) x.1,x.2⟩
 rw [h,L.num] at x
 cases x.1
theorem GW {α:Type} {C:ak} {σ:St} {p B q z i turn:Nat} {t:Bool} {nm:String} {v:α→V} {rows:List α} {r:α} {l:List (Option V)} (gs:σ.get z=some (.list aa (rows.map v))) (he:rows[jW turn rows.length i]? =some r):
  ∀Q:V→St→Prop,Q (v r) σ→aH C (.sub (.loc 8) (.ite (.bin .mod (.bin .fdiv (.loc 4) (.int 4)) (.int 2)) (.loc 10) (.bin .sub (.bin .sub (.len (.loc 8)) (.int 1)) (.loc 10)))) (Rm p B q t turn nm (some (.ref z)::some (.int i)::some (.int ((i+turn) % rows.length:Nat))::l)) σ Q:=by
 intro Q k
 refine ⟨show (0:Int)<4 by decide,show (4:Int)<1000000000 by decide,show (0:Int)<2 by decide,?_⟩
 by_cases hc:turn / 4 % 2=0
 ·unfold jW at he;rw [if_pos hc] at he
  have hlt:=(Ka.mp he).1
  apply pE (congrArg Int.ofNat hc)
  apply bH gs (congrArg some (Km _))
  have h0:0<rows.length:=JV (Kw _) hlt
  have e3:((rows.length:Int) - 1 - (((i+turn) % rows.length:Nat):Int))=((rows.length - 1 - (i+turn) % rows.length:Nat):Int):=
   ((Ly (Nat.le_sub_one_of_lt (K2 _ h0))).trans (congrArg (· - (((i+turn) % rows.length:Nat):Int)) (Ly h0))).symm
  exact bR gs ((congrArg (zA _) (congrArg V.int e3)).trans (eu he)) k
 ·unfold jW at he;rw [if_neg hc] at he
  apply pD (λ e=>hc (K5 e))
  exact bp gs he k
theorem xh {α:Type} {v:α→V} {XF:St→AS→α→Nat→Prop} {nm:String} {d p B q n off c turn z zf z0 z1:Nat} {t:Bool} {rows:List α} {al:List (V×V)} {S:AS} {o:bJ} {nl:List (V×V)} {σ:St} {L:Option V→ax→St→Prop} {x8 x9 x10 x11 x12 x13:Option V}
  (Ls:LS σ p B S o nl) (hq:σ.get q=some (.dict aa 1 al)) (he:ae al (.str nm)=some (.ref zf)) (hzf:σ.get zf=some (.list aa [.ref z0,.ref z1])) (hzz:(if t then z1 else z0)=z) (hz:σ.get z=some (.list aa (rows.map v))) (hzp:z<p∨p+14≤z) (hzB:z<B) (hnx:n+off≠z) (hnB:n+off<B+24)
  (okn:rows.Nodup) (okl:2≤rows.length) (oku:rows.length≤4) (hv:∀{a b},v a=v b→a=b) (kkk:∀a,kk 2 (.tup [.str nm,.int (bn t:Nat),v a])=true) (hf:σ.get (n+off)=some (.list aa [])) (hc:c≤7) (hs:S.size<50000) (hnl:nl.length<1000)
  (mono:∀{s s':St} {S S':AS} {r:α} {fid:Nat},XF s S r fid→S.le S'→s.len≤s'.len→(∀k,B+26≤k→k<s.len→s'.get k=s.get k)→XF s' S' r fid)
  (sel:∀(r:α) (s:St) (S':AS) (nl':List (V×V)) (lf:List Nat) (i at_:Nat) (x12 x13:Option V) (L1:Option V→ax→St→Prop),r∈rows→LS s p B S' o nl'→Mk p B (n+off) σ S 28 s S'→lf.length<10→s.get (n+off)=some (.list aa (lf.map vi))→
   (∀s' S'' fid x13,LS s' p B S'' o nl'→Mk p B (n+off) s S' c s' S''→XF s' S'' r fid→s'.get (n+off)=some (.list aa ((lf++[fid]).map vi))→ah (aw (d+10)) [.set (.sub (.loc 5) (.tup [.loc 7,.loc 3,.loc 11])) (.loc 12)] (Rm p B q t turn nm [some (.ref z),some (.int i),some (.int at_),some (v r),some (.int fid),x13]) s' L1)→
   ah (aw (d+10)) ue (Rm p B q t turn nm [some (.ref z),some (.int i),some (.int at_),some (v r),x12,x13]) s L1)
  (k:∀σ' S' nl' x8 x9 x10 x11 x12 x13,LS σ' p B S' o nl'→Mk p B (n+off) σ S 28 σ' S'→nl'.length≤nl.length+4→
   (∀r∈rows,∃fid,ae nl' (.tup [.str nm,.int (bn t:Nat),v r])=some (vi fid)∧XF σ' S' r fid)→(∀key,(∀r,key≠.tup [.str nm,.int (bn t:Nat),v r])→ae nl' key=ae nl key)→
   L none (Rm p B q t turn nm [x8,x9,x10,x11,x12,x13]) σ'):
  ah (aw (d+10)) [.set (.loc 8) (.sub (.sub (.loc 2) (.loc 7)) (.loc 3)),.for_ false [9] (.rng1 (.len (.loc 8))) (.set (.loc 10) (.bin .mod (.bin .add (.loc 9) (.loc 4)) (.len (.loc 8)))::.set (.loc 11) (.sub (.loc 8) (.ite (.bin .mod (.bin .fdiv (.loc 4) (.int 4)) (.int 2)) (.loc 10) (.bin .sub (.bin .sub (.len (.loc 8)) (.int 1)) (.loc 10))))::ue)]
   (Rm p B q t turn nm [x8,x9,x10,x11,x12,x13]) σ L:=by
 have hL:zy (.list aa (rows.map v))=some rows.length:=congrArg some (Km _)
 have hlp:0<rows.length:=JS (by decide) okl
 have gz:∀{s:St} {S':AS} {c:Nat},Mk p B (n+off) σ S c s S'→s.get z=some (.list aa (rows.map v)):=λ M=>(M.fr z (ac hz) hzp (J5 (JS hzB (JU B 25))) hnx.symm).trans hz
 have kin:∀{a b:α},V.tup [.str nm,.int (bn t:Nat),v a]=.tup [.str nm,.int (bn t:Nat),v b]→a=b:=λ e=>hv (i8 e).2.2
 have hnb:n+off<B+26:=JS hnB (JW (by decide) B)
 have hm4:∀{i:Nat},i≤rows.length→c*i≤28:=λ h=>Nat.mul_le_mul hc (JT h oku)
 apply br (v:=.ref z) (by dsimp! [dP hq he,bO hzf ((mY t).trans (by cases t<;>exact congrArg (λ x=>some (V.ref x)) hzz))])
 apply dl (nW (by dsimp! [bH hz hL]) (JT oku (by decide)))
 refine dE (λ i ρ s=>∀P:Prop,(∀(S':AS) (nl':List (V×V)) (lf:List Nat) (x9 x10 x11 x12 x13:Option V),LS s p B S' o nl'→Mk p B (n+off) σ S (c*i) s S'→nl'.length≤nl.length+i→lf.length=i→s.get (n+off)=some (.list aa (lf.map vi))→
   (∀(j:Nat) r,rows[j]? =some r→(∃i',i'<i∧jW turn rows.length i'=j)→∃fid,ae nl' (.tup [.str nm,.int (bn t:Nat),v r])=some (vi fid)∧XF s S' r fid)→(∀key,(∀r,key≠.tup [.str nm,.int (bn t:Nat),v r])→ae nl' key=ae nl key)→
   ρ=Rm p B q t turn nm [some (.ref z),x9,x10,x11,x12,x13]→P)→P) (λ ρ s I=>I _ λ S' nl' lf x9 x10 x11 x12 x13 L' M hnl' hlf gf hmem hkey e=>?_) (λ i hi ρ s I=>I _ λ S' nl' lf x9 x10 x11 x12 x13 L' M hnl' hlf gf hmem hkey e=>?_)
  λ P k=>k S nl [] x9 x10 x11 x12 x13 Ls .rfl' (Kd _) rfl hf (λ j r yy h=>h.elim λ i' h=>absurd h.1 (Nat.not_lt_zero i')) (λ yy yy=>rfl) rfl
 ·subst e
  refine ⟨trivial,bE (k s S' nl' _ _ _ _ _ _ L' (M.le' (hm4 (Kd _))) (JT hnl' (JW oku _)) (λ r hr=>?_) hkey)⟩
  exact (KT hr).elim λ j hj=>hmem j r hj (xF okl (Ka.mp hj).1)
 ·subst e
  refine ⟨trivial,λ K hK=>?_⟩
  have gs:=gz M
  have hx:jW turn rows.length i<rows.length:=GV hlp
  have he:rows[jW turn rows.length i]? =some rows[jW turn rows.length i]:=JZ hx
  have hrm:rows[jW turn rows.length i]∈rows:=KF hx
  generalize rows[jW turn rows.length i]=r at he hrm
  have M28:Mk p B (n+off) σ S 28 s S':=M.le' (hm4 (Kb hi))
  apply br (v:=.int ((i+turn) % rows.length:Nat)) (by dsimp! [bH gs hL,And.intro (show (0:Int)<(rows.length:Int) from Int.ofNat_lt.mpr hlp)])
  apply br (v:=v r) (GW gs he)
  refine sel r s S' nl' lf i _ _ _ _ hrm L' M28 (hlf▸JS hi (JT oku (by decide))) gf λ s2 S2 fid x13 L2 M2 X2 gf2=>?_
  apply pN (by dsimp!) (by dsimp!) (by dsimp!) L2.num (kkk r) (JV hnl' (JY (Nat.add_lt_add hnl (JS hi oku)) (by decide)))
  apply bE
  have hdl:=ju (l:=nl') (x:=.tup [.str nm,.int (bn t:Nat),v r]) (y:=vi fid)
  have f25:∀k,B+26≤k→k<s2.len→(s2.put (B+25) (.dict aa 2 (bz nl' (.tup [.str nm,.int (bn t:Nat),v r]) (vi fid)))).get k=s2.get k:=λ k a yy=>aR (J8 a)
  refine hK _ _ λ P k=>k S2 (bz nl' (.tup [.str nm,.int (bn t:Nat),v r]) (vi fid)) (lf++[fid]) _ _ _ _ _ L2.put (M.trans M2).put (JT hdl (Kj hnl')) (by rw [List.length_append,hlf];rfl) (aA (J5 (JY hnB (Kc _))) gf2) (λ j r' hr' h=>?_) (λ key hk=>by rw [eN,if_neg (hk r)];exact hkey key hk) rfl
  by_cases hj:jW turn rows.length i=j
  ·subst hj
   cases he.symm.trans hr'
   exact ⟨fid,by rw [eN,if_pos rfl],mono X2 .rfl' (J3 aj.symm) f25⟩
  ·refine h.elim λ i' h=>?_
   have hi2:i'<i:=Nat.lt_of_le_of_ne (KV h.1) λ e=>hj (e▸h.2)
   refine (hmem j r' hr' ⟨i',hi2,h.2⟩).elim λ fid' h'=>⟨fid',?_,mono (mono h'.2 M2.le M2.len (M2.hi Ls.b hnb)) .rfl' (J3 aj.symm) f25⟩
   rw [eN,if_neg λ e=>hj (cw okn he (by rw [←kin e];exact hr'))];exact h'.1
theorem cQ {p k i:Nat} (h:k<p∨p+14≤k) (hi:i<14):k≠p+i:=h.elim (λ h=>J5 (Ks i h)) λ h=>J8 (JS (J0 hi p) h)
theorem bP {p k:Nat} (h:k<p∨p+14≤k):k<p+2∨p+7≤k:=h.imp (Ks 2) (JT (JW (by decide) p))
theorem LS.ext {s s':St} {p B:Nat} {S S':AS} {o:bJ} {nl:List (V×V)} (L:LS s p B S o nl) (C:SC s' p S') (hl:s.len≤s'.len) (h:∀k,B+24≤k→k<B+26→s'.get k=s.get k):LS s' p B S' o nl:=
 ⟨C,(h _ (Kd _) (J0 (show 24<26 by decide) B)).trans L.own,(h _ (Kt _) (Kc _)).trans L.num,L.ok,L.b,JT L.len hl⟩
theorem zw {o:bJ}:∀t:Bool,c3 [vi o.a,vi o.b,vi o.l] ((bn t:Nat):Int)=some (vi (o.t t))
 |false=>rfl
 |true=>rfl
structure Jx (σ:St) (lo hi z:Nat) (l:List V):Prop where
 g:σ.get z=some (.list aa l)
 lo:lo≤z
 hi:z<hi
theorem cg.zf {σ:St} {R:Rf} {lo hi:Nat} {d:De} (D:cg σ R lo hi d):∀t:Bool,Jx σ lo hi (if t then R.f1 else R.f0) ((d.f t).map Fr.v)
 |false=>⟨D.f0,D.bd.2.2.2.1.1,D.bd.2.2.2.1.2⟩
 |true=>⟨D.f1,D.bd.2.2.2.2.1.1,D.bd.2.2.2.2.1.2⟩
theorem cg.zm {σ:St} {R:Rf} {lo hi:Nat} {d:De} (D:cg σ R lo hi d):∀t:Bool,Jx σ lo hi (if t then R.m1 else R.m0) ((d.m t).map Mr.v)
 |false=>⟨D.m0,D.bd.2.2.2.2.2.1.1,D.bd.2.2.2.2.2.1.2⟩
 |true=>⟨D.m1,D.bd.2.2.2.2.2.2.1.1,D.bd.2.2.2.2.2.2.1.2⟩
theorem nB {n B:Nat} (h:n=B+1∨n=B+12):B<n∧n+9<B+24:=h.elim (λ h=>h▸⟨Kc B,J0 (show 10<24 by decide) B⟩) λ h=>h▸⟨KD (show 0<12 by decide),J0 (show 21<24 by decide) B⟩
theorem Cn {d p B lo hi n asm turn:Nat} {t:Bool} {tn:String} {R:Rf} {de:De} {S:AS} {o:bJ} {nl:List (V×V)} {σ:St} {L:Option V→ax→St→Prop} {x8 x9 x10 x11 x12 x13:Option V}
  (Ls:LS σ p B S o nl) (D:cg σ R lo hi de) (hhi:hi≤B) (hdis:hi≤p∨p+14≤lo) (ok:sa (de.f t)) (ht:S.tz[o.t t]? =some (some (n,asm))) (hn:σ.get n=some (cU n (o.t t) tn (n+5) (n+6) asm 0 0)) (hnn:n=B+1∨n=B+12) (hf:σ.get (n+5)=some (.list aa []))
  (hs:S.size<50000) (hnl:nl.length<1000)
  (k:∀σ' S' nl' x8 x9 x10 x11 x12 x13,LS σ' p B S' o nl'→Mk p B (n+5) σ S 28 σ' S'→nl'.length≤nl.length+4→
   (∀r∈de.f t,∃fid,ae nl' (kF t r)=some (vi fid)∧FF σ' S' o (B+26) t r fid)→(∀key,(∀r,key≠kF t r)→ae nl' key=ae nl key)→
   L none (Rm p B R.q t turn "fields" [x8,x9,x10,x11,x12,x13]) σ'):
  ah (aw (d+10)) [.set (.loc 8) (.sub (.sub (.loc 2) (.loc 7)) (.loc 3)),.for_ false [9] (.rng1 (.len (.loc 8))) (.set (.loc 10) (.bin .mod (.bin .add (.loc 9) (.loc 4)) (.len (.loc 8)))::.set (.loc 11) (.sub (.loc 8) (.ite (.bin .mod (.bin .fdiv (.loc 4) (.int 4)) (.int 2)) (.loc 10) (.bin .sub (.bin .sub (.len (.loc 8)) (.int 1)) (.loc 10))))::ue)]
   (Rm p B R.q t turn "fields" [x8,x9,x10,x11,x12,x13]) σ L:=by
 refine D.ex.elim λ al h=>?_
 have Z:=D.zf t
 have hB:=nB hnn
 have hpn:p+14≤n:=JT Ls.b (Kb hB.1)
 have hzB:=JS Z.hi hhi
 refine xh (c:=3) (off:=5) (XF:=λ s S' r fid=>FF s S' o (B+26) t r fid) Ls h.1 h.2.2.1 D.f rfl Z.g (hdis.elim (λ e=>.inl (JS Z.hi e)) λ e=>.inr (JT e Z.lo)) hzB (J8 (JS (JY hzB hB.1) (JU n 5)))
  (JV (JW (by decide) n) hB.2) ok.1 ok.2.1 ok.2.2.1 Fr.v_inj (λ yy=>xx) hf (by decide) hs hnl (λ h=>h.mono) ?_ k
 intro r s S' nl' lf i at_ x12 x13 L1 hr L' M hlf gf K
 apply aU (pT rfl)
 apply bq
 apply cy
 apply aE (pX rfl)
 apply aE (by dsimp! [bO L'.own (zw t)])
 apply aE (pX rfl)
 apply gZ (pS rfl)
 have hsz:=M.sz
 have hS:S'.size<50028:=JV hsz (Kv hs 28)
 refine L'.kind (JY hS (by decide)) (ok.2.2.2 r hr) λ k' rows' s2 L2 g1 g2 g3 g4 g5=>?_
 have sz2:AS.size {S' with rows:=rows'}≤S'.size+2:=AS.szR g2
 have F2:∀k,k<s.len→k<p∨p+14≤k→s2.get k=s.get k:=λ k a b=>g5 k a (bP b)
 have hn2:s2.get n=some (cU n (o.t t) tn (n+5) (n+6) asm 0 0):=(F2 n (JS (ac hn) M.len) (.inr hpn)).trans ((M.fr n (ac hn) (.inr hpn) (J5 (JV (JU n 9) (Kr hB.2))) (J5 (KD (by decide)))).trans hn)
 have hpf:p+14≤n+5:=JT hpn (JU n 5)
 have hnf:n+5<B+24:=JV (JW (by decide) n) hB.2
 refine jC (d:=d+8) L2.C (JV sz2 (JY (Kv hS 2) (by decide))) ((congrArg (λ l=>l[o.t t]?) M.ty).trans ht) hn2 ((F2 _ (ac gf) (.inr hpf)).trans gf) hpf (JY hlf (by decide)) λ s3 C3 l3 g6 g7 f3=>?_
 have l3':s.len≤s3.len:=JT g4 (JT (Kt _) (J3 l3.symm))
 have hlt:∀k,B+24≤k→k<B+26→s3.get k=s2.get k:=λ k a b=>f3 k (JS b L2.len) (cQ (.inr (JT Ls.b (JT (JU B 24) a))) (by decide)) (J8 (JS hnf a))
 refine K s3 _ _ x13 (L2.ext C3 (JT (Kt _) (J3 l3.symm)) hlt) ⟨⟨g1,J1 _,Ku _ _,J1 _,J1 _⟩,?_,rfl,rfl,l3',λ k a b yy e=>(f3 k (JS a g4) (cQ b (by decide)) e).trans (F2 k a b)⟩
  ⟨s2.len,k',Kg,L2.len,by rw [l3];exact Kc _,g6,g3⟩ g7
 exact JT (J3 (AS.szF (S:={S' with rows:=rows'}))) (Kj sz2)
theorem aQ {σ:St} {x:Mine.O}:σ.len<(σ.new x).len:=by rw [aD];exact Kc _
theorem JD {σ:St} {r g:Nat} {Q:V→St→Prop} (e:σ.get r=some (.list aa [.str "U"])) (h:g≤1) (q:Q (.ref σ.len) (σ.new (.list aa ((List.replicate g "U").map V.str)))):jn (.ref r) (.int (g:Nat)) σ Q:=by
 refine H6 e (Kp g) ?_
 have:g=0∨g=1:=(Nat.lt_or_eq_of_le h).imp_left λ h=>Nat.eq_zero_of_le_zero (KV h)
 rcases this with rfl|rfl<;>exact q
theorem FY {g:Nat} (h:g≤1):List.replicate g "U"=[]∨List.replicate g "U"=["U"]:=by
 have:g=0∨g=1:=(Nat.lt_or_eq_of_le h).imp_left λ h=>Nat.eq_zero_of_le_zero (KV h)
 rcases this with rfl|rfl
 ·exact .inl rfl
 ·exact .inr rfl
theorem LS.new {s:St} {p B:Nat} {S:AS} {o:bJ} {nl:List (V×V)} {x:Mine.O} (L:LS s p B S o nl):LS (s.new x) p B S o nl:=by
 have h:s.len≤(s.new x).len:=by rw [aD];exact Kt _
 exact L.ext (L.C.frame' h λ k yy b=>aP b) h λ k yy b=>aP (JS b L.len)
theorem Cm {d p B lo hi n asm turn:Nat} {t:Bool} {tn:String} {R:Rf} {de:De} {S:AS} {o:bJ} {nl:List (V×V)} {σ:St} {L:Option V→ax→St→Prop} {x8 x9 x10 x11 x12 x13:Option V}
  (Ls:LS σ p B S o nl) (D:cg σ R lo hi de) (hhi:hi≤B) (hdis:hi≤p∨p+14≤lo) (ok:oi (de.m t)) (ht:S.tz[o.t t]? =some (some (n,asm))) (hn:σ.get n=some (cU n (o.t t) tn (n+5) (n+6) asm 0 0)) (hnn:n=B+1∨n=B+12) (hf:σ.get (n+6)=some (.list aa []))
  (hs:S.size<50000) (hnl:nl.length<1000)
  (k:∀σ' S' nl' x8 x9 x10 x11 x12 x13,LS σ' p B S' o nl'→Mk p B (n+6) σ S 28 σ' S'→nl'.length≤nl.length+4→
   (∀r∈de.m t,∃fid,ae nl' (kM t r)=some (vi fid)∧MF σ' S' o (B+26) t r fid .none)→(∀key,(∀r,key≠kM t r)→ae nl' key=ae nl key)→
   L none (Rm p B R.q t turn "methods" [x8,x9,x10,x11,x12,x13]) σ'):
  ah (aw (d+10)) [.set (.loc 8) (.sub (.sub (.loc 2) (.loc 7)) (.loc 3)),.for_ false [9] (.rng1 (.len (.loc 8))) (.set (.loc 10) (.bin .mod (.bin .add (.loc 9) (.loc 4)) (.len (.loc 8)))::.set (.loc 11) (.sub (.loc 8) (.ite (.bin .mod (.bin .fdiv (.loc 4) (.int 4)) (.int 2)) (.loc 10) (.bin .sub (.bin .sub (.len (.loc 8)) (.int 1)) (.loc 10))))::ue)]
   (Rm p B R.q t turn "methods" [x8,x9,x10,x11,x12,x13]) σ L:=by
 refine D.ex.elim λ al h=>?_
 have Z:=D.zm t
 have hB:=nB hnn
 have hpn:p+14≤n:=JT Ls.b (Kb hB.1)
 have hzB:=JS Z.hi hhi
 refine xh (c:=7) (off:=6) (XF:=λ s S' r fid=>MF s S' o (B+26) t r fid .none) Ls h.1 h.2.2.2.1 D.m rfl Z.g (hdis.elim (λ e=>.inl (JS Z.hi e)) λ e=>.inr (JT e Z.lo)) hzB (J8 (JS (JY hzB hB.1) (JU n 6)))
  (JV (JW (by decide) n) hB.2) ok.1 ok.2.1 ok.2.2.1 Mr.v_inj (λ yy=>eX) hf (by decide) hs hnl (λ h=>h.mono) ?_ k
 intro r s S' nl' lf i at_ x12 x13 L1 hr L' M hlf gf K
 have okr:=ok.2.2.2 r hr
 have hS:S'.size<50028:=JV M.sz (Kv hs 28)
 apply ay (pT rfl)
 apply bq
 apply dO (v:=.tup (r.ps.map V.str)) rfl
 apply mi
 show er (λ yy=>True) (λ v σ2 K=>aw (d+10) (.g "_law_kind") [.ref (p+1),.ref (B+24),v] σ2 λ v σ1=>K (some v) σ1) (r.ps.map V.str) [] s _
 refine LS.kinds (D:=d+1) L' (JY hS (by decide)) okr.2.2.2.2.1 okr.2.2.2.2.2 λ ks rowsA sA LA gA1 gA2 gA3 gA4 gA5=>?_
 apply bq
 apply cy
 apply aE (pX rfl)
 apply aE (by dsimp! [bO LA.new.own (zw t)])
 apply aE (pX rfl)
 apply aE (pX rfl)
 apply aE (pX rfl)
 apply gZ (pS rfl)
 have szA:AS.size {S' with rows:=rowsA}≤S'.size+4:=AS.szR gA2
 refine LA.new.kind (d:=d+1) (JV szA (JY (Kv hS 4) (by decide))) okr.2.2.2.1 λ k' rows' s2 L2 g1 g2 g3 g4 g5=>?_
 have sz2:AS.size {S' with rows:=rows'}≤S'.size+6:=JT (AS.szR (S:={S' with rows:=rowsA}) g2) (Ki szA 2)
 have lA:sA.len<(sA.new (.list aa (ks.map vi))).len:=aQ
 have l2:s.len≤s2.len:=JT gA4 (JT (Kb lA) g4)
 have F2:∀k,k<s.len→k<p∨p+14≤k→s2.get k=s.get k:=λ k a b=>have a':=JS a gA4;(g5 k (JY a' lA) (bP b)).trans ((aP a').trans (gA5 k a (bP b)))
 have hn2:s2.get n=some (cU n (o.t t) tn (n+5) (n+6) asm 0 0):=(F2 n (JS (ac hn) M.len) (.inr hpn)).trans ((M.fr n (ac hn) (.inr hpn) (J5 (JV (JU n 9) (Kr hB.2))) (J5 (KD (by decide)))).trans hn)
 have hpf:p+14≤n+6:=JT hpn (JU n 6)
 have hnf:n+6<B+24:=JV (JW (by decide) n) hB.2
 have hpA:p+14≤sA.len:=JT LA.b (JT (JU B 26) LA.len)
 refine iC (d:=d+7) (ks:=ks) L2.C (JV sz2 (JY (Kv hS 6) (by decide))) ((congrArg (λ l=>l[o.t t]?) M.ty).trans ht) hn2 ((F2 _ (ac gf) (.inr hpf)).trans gf) hpf (JY hlf (by decide)) okr.2.2.1 okr.1 (by rw [gA3.len];exact okr.2.2.2.2.2)
  (.inr ⟨sA.len,.inr hpA,rfl,(g5 _ lA (bP (.inr hpA))).trans be⟩) λ s3 C3 l3 g6 g7 f3=>?_
 have l3':s2.len<s3.len:=by rw [l3];exact KD (by decide)
 apply fg
 apply cy
 apply aE (pX rfl)
 apply aE (pX rfl)
 apply dO (v:=vi r.g) rfl
 apply JD be okr.2.1
 apply oF rfl
 have lu:s3.len<(s3.new (.list aa [.str "U"])).len:=aQ
 have lv:(s3.new (.list aa [.str "U"])).len<((s3.new (.list aa [.str "U"])).new (.list aa ((List.replicate r.g "U").map V.str))).len:=aQ
 have lw:((s3.new (.list aa [.str "U"])).new (.list aa ((List.replicate r.g "U").map V.str))).len<(((s3.new (.list aa [.str "U"])).new (.list aa ((List.replicate r.g "U").map V.str))).new (.list aa [])).len:=aQ
 have fw:∀k,k<s3.len→(((s3.new (.list aa [.str "U"])).new (.list aa ((List.replicate r.g "U").map V.str))).new (.list aa [])).get k=s3.get k:=λ k a=>(aP (JY (JY a lu) lv)).trans ((aP (JY a lu)).trans (aP a))
 have ls:s3.len≤(((s3.new (.list aa [.str "U"])).new (.list aa ((List.replicate r.g "U").map V.str))).new (.list aa [])).len:=Kb (JY (JY lu lv) lw)
 refine mn (d:=d+9) (C3.frame' ls λ k yy b=>fw k b) Kg ((fw _ l3').trans g6) (FY okr.2.1) (bT be) (J8 (JY l3' lu)) be λ s4 l4 g8 g9 g10 f4=>?_
 generalize ((s3.new (.list aa [.str "U"])).new (.list aa ((List.replicate r.g "U").map V.str))).new (.list aa [])=sw at fw ls l4 g8 g9 g10 f4
 rw [List.length_replicate] at g8
 have l4':sw.len+1<s4.len:=by rw [l4];exact Kc _
 have l34:s3.len≤s4.len:=JT ls (JT (Kt _) (Kb l4'))
 have l24:s2.len≤s4.len:=JT (Kb l3') l34
 have f24:∀k,k<s2.len→k≠p+9→k≠n+6→s4.get k=s2.get k:=λ k a b e=>(f4 k (JS (JY a l3') ls) (J5 a)).trans ((fw k (JY a l3')).trans (f3 k a b e))
 have hB26:p+14≤B+24:=JT Ls.b (JU B 24)
 have hlt:∀k,B+24≤k→k<B+26→s4.get k=s2.get k:=λ k a b=>f24 k (JS b L2.len) (cQ (.inr (JT hB26 a)) (by decide)) (J8 (JS hnf a))
 have C4:SC s4 p {S' with rows:=rows',mzz:=S'.mzz++[some s2.len]}:=by
  refine C3.frame l34 (λ k a b=>?_) λ i n' a e=>?_
  ·have b2:=JS b L2.C.len
   exact (f4 k (JS (JY b2 l3') ls) (J5 b2)).trans (fw k (JY b2 l3'))
  ·refine (C3.ti i n' a e).2.2.imp λ as x=>⟨(f4 n' (JS (C3.ti i n' a e).2.1 ls) λ e'=>?_).trans ((fw n' (C3.ti i n' a e).2.1).trans x.1),x.2⟩
   rw [e',g6] at x
   exact absurd (congrArg (λ o=>match o with|some (O.inst _ c _)=>c|_=>"") x.1) (show ¬"MethodDef"="TypeDef" by decide)
 have lsw:B+26≤sw.len:=JT L2.len (JT (Kb l3') ls)
 refine K s4 _ _ _ (L2.ext C4 l24 hlt) ⟨⟨gA1.trans g1,J1 _,J1 _,Ku _ _,J1 _⟩,?_,rfl,rfl,JT l2 l24,λ k a b yy e=>(f24 k (JS a l2) (cQ b (by decide)) e).trans (F2 k a b)⟩
  ⟨s2.len,sw.len,sw.len+1,k',ks,Kg,⟨L2.len,JS l3' l34⟩,⟨lsw,KU l4'⟩,⟨KQ lsw,l4'⟩,g8,g9,g10,g3,gA3.mono g1⟩
  ((f4 _ (JS (ac g7) ls) (J5 (JS hnf (JT (JW (by decide) B) L2.len)))).trans ((fw _ (ac g7)).trans g7))
 exact JT (J3 (AS.szM (S:={S' with rows:=rows'}))) (Kj sz2)
noncomputable def bW (nl:List (V×V)) (k:V):Nat:=match ae nl k with
 |some (.int i)=>i.toNat
 |_=>0
theorem ux {nl:List (V×V)} {k:V} {i:Nat} (h:ae nl k=some (vi i)):bW nl k=i:=by unfold bW;rw [h];rfl
theorem jU {σ:St} {r:Nat} {t:Tg} {es:List (V×V)} {k v:V} {Q:V→St→Prop} (g:σ.get r=some (.dict t 2 es)) (hk:kk 2 k=true) (h:ae es k=some v) (q:Q v σ):fb (.ref r) k σ Q:=
 bR g (show (if kk 2 k=true then ae es k else none)=some v from (if_pos hk).trans h) q
theorem LS.td {σ:St} {p B n tid fr mr asm cc fi:Nat} {tn:String} {S:AS} {o:bJ} {nl:List (V×V)} (L:LS σ p B S o nl) (hn:σ.get n=some (cU n tid tn fr mr asm cc fi)) (h1:p+14≤n) (h2:n<B+24) (fr' mr' cc' fi':Nat):LS (σ.put n (cU n tid tn fr' mr' asm cc' fi')) p B S o nl:=by
 have hl:σ.len≤(σ.put n (cU n tid tn fr' mr' asm cc' fi')).len:=J3 aj.symm
 refine L.ext (L.C.frame hl (λ k yy h=>aR (J5 (JS h h1))) λ i n' a e=>?_) hl λ k h yy=>aR (J8 (JS h2 h))
 refine (L.C.ti i n' a e).2.2.elim λ as x=>?_
 by_cases h:n'=n
 ·subst h
  cases hn.symm.trans x.1
  exact ⟨_,aX (ac hn),x.2⟩
 ·exact ⟨as,aA h x.1,x.2⟩
theorem xR {α:Type} {C:ak} {v:α→V} {ids:α→Nat} {nm nm':String} {p B q turn zf z0 z1:Nat} {t:Bool} {rows:List α} {al nl:List (V×V)} {s:St} {l:List (Option V)} (hq:s.get q=some (.dict aa 1 al)) (he:ae al (.str nm)=some (.ref zf)) (hzf:s.get zf=some (.list aa [.ref z0,.ref z1])) (hz:s.get (if t then z1 else z0)=some (.list aa (rows.map v)))
  (hn:s.get (B+25)=some (.dict aa 2 nl)) (kkk:∀a,kk 2 (.tup [.str nm,.int (bn t:Nat),v a])=true) (hd:∀a∈rows,ae nl (.tup [.str nm,.int (bn t:Nat),v a])=some (vi (ids a))):
  ∀Q:V→St→Prop,Q (.ref s.len) (s.new (.list aa (rows.map λ a=>vi (ids a))))→aH C (.comp (.sub (.loc 0) (.tup [.str nm,.loc 1,.loc 2])) [5,3] false 1 (.sub (.sub (.loc 2) (.str nm)) (.loc 3)) []) (Rm p B q t turn nm' l) s Q:=by
 intro Q k
 apply dP hq he
 apply bO hzf (mY t)
 have e:(if t then V.ref z1 else V.ref z0)=.ref (if t then z1 else z0):=by cases t<;>rfl
 rw [e]
 apply gu hz
 refine eo (λ l acc s'=>s'=s∧∃done,done++l=rows∧acc=done.map λ a=>vi (ids a)) (λ acc s' i=>?_) (λ a l acc s' i=>?_) ⟨rfl,[],rfl,rfl⟩
 ·refine i.2.elim λ done h=>?_
  rw [i.1,h.2,←h.1,List.append_nil]
  rw [←h.1,List.append_nil] at hz k
  exact ⟨hz,k⟩
 ·refine i.2.elim λ done h=>?_
  rw [i.1]
  refine ⟨hz,λ K hK yy=>?_⟩
  apply jU hn (kkk a) (hd a (by rw [←h.1];exact KS _ Ky))
  exact hK _ _ ⟨rfl,done++[a],by rw [List.append_assoc];exact h.1,by rw [h.2,List.map_append];rfl⟩
theorem ym {d p B lo hi n asm turn:Nat} {t:Bool} {tn:String} {R:Rf} {de:De} {S:AS} {o:bJ} {nl:List (V×V)} {σ:St} {Q:V→St→Prop}
  (Ls:LS σ p B S o nl) (D:cg σ R lo hi de) (hhi:hi≤B) (hdis:hi≤p∨p+14≤lo) (okf:sa (de.f t)) (okm:oi (de.m t)) (ht:S.tz[o.t t]? =some (some (n,asm))) (hn:σ.get n=some (cU n (o.t t) tn (n+5) (n+6) asm 0 0)) (hnn:n=B+1∨n=B+12) (hf:σ.get (n+5)=some (.list aa [])) (hm:σ.get (n+6)=some (.list aa []))
  (hs:S.size<40000) (hnl:nl.length<900)
  (k:∀σ' S' nl' fr' mr',LS σ' p B S' o nl'→S.le S'→S'.size≤S.size+56→nl'.length≤nl.length+8→S'.tz=S.tz→S'.az=S.az→
   (∀r∈de.f t,ae nl' (kF t r)=some (vi (bW nl' (kF t r)))∧FF σ' S' o (B+26) t r (bW nl' (kF t r)))→(∀r∈de.m t,ae nl' (kM t r)=some (vi (bW nl' (kM t r)))∧MF σ' S' o (B+26) t r (bW nl' (kM t r)) .none)→(∀key,(∀r,key≠kF t r)→(∀r,key≠kM t r)→ae nl' key=ae nl key)→
   σ'.get n=some (cU n (o.t t) tn fr' mr' asm 0 0)→(B+26≤fr'∧fr'<σ'.len)→(B+26≤mr'∧mr'<σ'.len)→σ'.get fr'=some (.list aa ((de.f t).map λ r=>vi (bW nl' (kF t r))))→σ'.get mr'=some (.list aa ((de.m t).map λ r=>vi (bW nl' (kM t r))))→
   σ.len≤σ'.len→(∀k,k<σ.len→(k<p∨p+14≤k)→k≠B+25→k≠n→k≠n+5→k≠n+6→σ'.get k=σ.get k)→Q .none σ'):
  aw (d+11) (.g "_law_make") [.ref p,.ref (B+24),.ref R.q,.int (bn t:Nat),.int turn,.ref (B+25)] σ Q:=by
 have hB:=nB hnn
 have hpB:=Ls.b
 have hpn:p+14≤n:=JT hpB (Kb hB.1)
 have hnB:n<B+24:=JV (JU n 9) hB.2
 have hn25:n≠B+25:=J5 (Kr hnB)
 refine go tH rfl ?_
 apply br (by dsimp! [Ls.C.inst])
 apply dl (items:=[.str "fields",.str "methods"]) (guard:=λ yy=>True) (by clear k;intro Q q;first|exact q|(apply mi;exact q))
 refine ⟨trivial,?_⟩
 refine Cn Ls D hhi hdis okf ht hn hnn hf (JY hs (by decide)) (JY hnl (by decide)) λ s1 S1 n1 x8 x9 x10 x11 x12 x13 L1 M1 nl1 mf1 key1=>⟨trivial,?_⟩
 have D1:cg s1 R lo hi de:=D.frame M1.len λ k a b=>M1.fr k (JS b D.len) (hdis.imp (JS b) λ h=>JT h a) (J5 (JS (JS b hhi) (JU B 25))) (J5 (JS (JY (JS b hhi) hB.1) (JU n 5)))
 have n6:n+6≠B+25:=J5 (JY (J0 (show 6<9 by decide) n) (Kr hB.2))
 have hn1:s1.get n=some (cU n (o.t t) tn (n+5) (n+6) asm 0 0):=(M1.fr n (ac hn) (.inr hpn) hn25 (Ip rfl)).trans hn
 refine Cm L1 D1 hhi hdis okm ((congrArg (λ l=>l[o.t t]?) M1.ty).trans ht) hn1 hnn ((M1.fr (n+6) (ac hm) (.inr (JT hpn (JU n 6))) n6 (nf rfl)).trans hm) (JV M1.sz (JY (Kv hs 28) (by decide))) (JV nl1 (JY (Kv hnl 4) (by decide)))
  λ s2 S2 n2 x8 x9 x10 x11 x12 x13 L2 M2 nl2 mm2 key2=>⟨trivial,?_⟩
 have D2:cg s2 R lo hi de:=D1.frame M2.len λ k a b=>M2.fr k (JS b D1.len) (hdis.imp (JS b) λ h=>JT h a) (J5 (JS (JS b hhi) (JU B 25))) (J5 (JS (JY (JS b hhi) hB.1) (JU n 6)))
 have hn2:s2.get n=some (cU n (o.t t) tn (n+5) (n+6) asm 0 0):=(M2.fr n (ac hn1) (.inr hpn) hn25 (Ip rfl)).trans hn1
 have hx6:n+6<B+26:=JY (JS (J0 (show 6<9 by decide) n) (Kb hB.2)) (J0 (by decide) B)
 have F2:∀r∈de.f t,ae n2 (kF t r)=some (vi (bW n2 (kF t r)))∧FF s2 S2 o (B+26) t r (bW n2 (kF t r)):=λ r hr=>(mf1 r hr).elim λ fid h=>by
  have e1:ae n2 (kF t r)=some (vi fid):=(key2 _ λ r'=>kS).trans h.1
  rw [ux e1]
  exact ⟨e1,h.2.mono M2.le M2.len (M2.hi hpB hx6)⟩
 have G2:∀r∈de.m t,ae n2 (kM t r)=some (vi (bW n2 (kM t r)))∧MF s2 S2 o (B+26) t r (bW n2 (kM t r)) .none:=λ r hr=>(mm2 r hr).elim λ fid h=>by
  rw [ux h.1];exact h
 have hty:S2.tz[o.t t]? =some (some (n,asm)):=(congrArg (λ l=>l[o.t t]?) (M2.ty.trans M1.ty)).trans ht
 have F12:∀k,k<σ.len→(k<p∨p+14≤k)→k≠B+25→k≠n→k≠n+5→k≠n+6→s2.get k=σ.get k:=λ k a b c yy e f=>(M2.fr k (JS a M1.len) b c f).trans (M1.fr k a b c e)
 have l12:σ.len≤s2.len:=JT M1.len M2.len
 have sz:S2.size≤S.size+56:=JT M2.sz (Ki M1.sz 28)
 have nl':n2.length≤nl.length+8:=JT nl2 (Ki nl1 4)
 have kk2:∀key,(∀r,key≠kF t r)→(∀r,key≠kM t r)→ae n2 key=ae nl key:=λ key a b=>(key2 key b).trans (key1 key a)
 have le2:=M1.le.trans M2.le
 have ty2:=M2.ty.trans M1.ty
 have as2:=M2.as_.trans M1.as_
 clear mf1 mm2 key1 key2 nl1 nl2 M1 M2 D1 L1 hn1
 refine D2.ex.elim λ al h=>?_
 have Zf:=D2.zf t
 have Zm:=D2.zm t
 have zn:∀{z},z<hi→z≠n:=λ h=>J5 (JY (JS h hhi) hB.1)
 have hbd:=D2.bd
 apply so (σ':=s2.new (.list aa ((de.f t).map λ r=>vi (bW n2 (kF t r))))) (r:=n) (xR h.1 h.2.2.1 D2.f Zf.g L2.num (λ yy=>xx) λ r hr=>(F2 r hr).1) (by dsimp! [L2.new.C.inst,bO L2.new.own (zw t),bp L2.new.C.tz hty]) (bT hn2) (o':=cU n (o.t t) tn s2.len (n+6) asm 0 0) rfl
 have L3:=(L2.new (x:=.list aa ((de.f t).map λ r=>vi (bW n2 (kF t r))))).td (bT hn2) hpn hnB s2.len (n+6) 0 0
 have n2l:=ac hn2
 have g3:((s2.new (.list aa ((de.f t).map λ r=>vi (bW n2 (kF t r))))).put n (cU n (o.t t) tn s2.len (n+6) asm 0 0)).get n=some (cU n (o.t t) tn s2.len (n+6) asm 0 0):=aX (JY n2l aQ)
 have g3f:((s2.new (.list aa ((de.f t).map λ r=>vi (bW n2 (kF t r))))).put n (cU n (o.t t) tn s2.len (n+6) asm 0 0)).get s2.len=some (.list aa ((de.f t).map λ r=>vi (bW n2 (kF t r)))):=aA (J8 n2l) be
 have r3:∀k,k<s2.len→k≠n→((s2.new (.list aa ((de.f t).map λ r=>vi (bW n2 (kF t r))))).put n (cU n (o.t t) tn s2.len (n+6) asm 0 0)).get k=s2.get k:=λ k a b=>(aR b).trans (aP a)
 have l3:s2.len<((s2.new (.list aa ((de.f t).map λ r=>vi (bW n2 (kF t r))))).put n (cU n (o.t t) tn s2.len (n+6) asm 0 0)).len:=px aQ
 generalize (s2.new (.list aa ((de.f t).map λ r=>vi (bW n2 (kF t r))))).put n (cU n (o.t t) tn s2.len (n+6) asm 0 0)=s3 at L3 g3 g3f r3 l3 ⊢
 have r3':∀{z x},z<hi→s2.get z=some x→s3.get z=some x:=λ a e=>(r3 _ (ac e) (zn a)).trans e
 have q3:=r3' hbd.1.2 h.1
 have m3:=r3' hbd.2.2.1.2 D2.m
 have z3:=r3' Zm.hi Zm.g
 apply so (σ':=s3.new (.list aa ((de.m t).map λ r=>vi (bW n2 (kM t r))))) (r:=n) (xR q3 h.2.2.2.1 m3 z3 L3.num (λ yy=>eX) λ r hr=>(G2 r hr).1) (by dsimp! [L3.new.C.inst,bO L3.new.own (zw t),bp L3.new.C.tz hty]) (bT g3) (o':=cU n (o.t t) tn s2.len s3.len asm 0 0) rfl
 apply bE
 have L4:=(L3.new (x:=.list aa ((de.m t).map λ r=>vi (bW n2 (kM t r))))).td (bT g3) hpn hnB s2.len s3.len 0 0
 have hkk:∀k,k<s2.len→k≠n→((s3.new (.list aa ((de.m t).map λ r=>vi (bW n2 (kM t r))))).put n (cU n (o.t t) tn s2.len s3.len asm 0 0)).get k=s2.get k:=λ k a b=>(aR b).trans ((aP (JY a l3)).trans (r3 k a b))
 have l4:s3.len<((s3.new (.list aa ((de.m t).map λ r=>vi (bW n2 (kM t r))))).put n (cU n (o.t t) tn s2.len s3.len asm 0 0)).len:=px aQ
 have hk26:∀k,B+26≤k→k<s2.len→((s3.new (.list aa ((de.m t).map λ r=>vi (bW n2 (kM t r))))).put n (cU n (o.t t) tn s2.len s3.len asm 0 0)).get k=s2.get k:=λ k a b=>hkk k b (J8 (JS (JY hnB (J0 (by decide) B)) a))
 have gn:=ac g3
 have l24:=Kb (JY l3 l4)
 exact k _ S2 n2 s2.len s3.len L4 le2 sz nl' ty2 as2 (λ r hr=>⟨(F2 r hr).1,(F2 r hr).2.mono .rfl' l24 hk26⟩) (λ r hr=>⟨(G2 r hr).1,(G2 r hr).2.mono .rfl' l24 hk26⟩) kk2 (aX (JY gn aQ)) ⟨L2.len,JY l3 l4⟩ ⟨JT L2.len (Kb l3),l4⟩ (aA (J8 n2l) (bT g3f)) (aA (J8 gn) be) (JT l12 l24)
  λ k a b c e f g=>(hkk k (JS a l12) e).trans (F12 k a b c e f g)
noncomputable def aS {α β:Type} (P:α→β→Prop) (l:List α) (r:List β):Prop:=l.length=r.length∧∀(i:Nat) a b,l[i]? =some a→r[i]? =some b→P a b
theorem aS.nil {α β:Type} {P:α→β→Prop}:aS P [] []:=⟨rfl,λ i a b h=>nomatch h⟩
theorem aS.snoc {α β:Type} {P:α→β→Prop} {l:List α} {r:List β} {a:α} {b:β} (h:aS P l r) (p:P a b):aS P (l++[a]) (r++[b]):=by
 refine ⟨by rw [List.length_append,List.length_append,h.1];rfl,λ i x y h1 h2=>?_⟩
 rcases bU h1 with h1|⟨rfl,rfl⟩
 ·rw [List.getElem?_append_left (h.1▸(List.getElem?_eq_some_iff.mp h1).1)] at h2
  exact h.2 i x y h1 h2
 ·rw [h.1,List.getElem?_concat_length] at h2
  cases h2;exact p
theorem aS.mono {α β:Type} {P Q:α→β→Prop} {l:List α} {r:List β} (h:aS P l r) (q:∀a b,P a b→Q a b):aS Q l r:=⟨h.1,λ i a b h1 h2=>q _ _ (h.2 i a b h1 h2)⟩
theorem aS.mem {α β:Type} {P:α→β→Prop} {l:List α} {r:List β} (h:aS P l r) (fn:∀a b b',P a b→P a b'→b=b') (inj:∀a a' b,P a b→P a' b→a=a') {a:α} {b:β} (p:P a b):b∈r↔a∈l:=by
 constructor
 ·intro hb
  obtain ⟨i,hi⟩:=KT hb
  have hl:=(Ka.mp hi).1
  have e:l[i]? =some (l[i]'(by rw [h.1];exact hl)):=JZ _
  rw [inj a _ b p (h.2 i _ b e hi)]
  exact Kh e
 ·intro ha
  obtain ⟨i,hi⟩:=KT ha
  have hl:=(Ka.mp hi).1
  have e:r[i]? =some (r[i]'(by rw [←h.1];exact hl)):=JZ _
  rw [fn a b _ p (h.2 i a _ hi e)]
  exact Kh e
noncomputable def ka (a:Bool):Nat:=if a then 13 else 7
noncomputable def fN (nl:List (V×V)) (t:Bool) (r:Fr):Nat:=bW nl (kF t r)
noncomputable def mN (nl:List (V×V)) (t:Bool) (r:Mr):Nat:=bW nl (kM t r)
noncomputable def Ai (rows:List aF) (o:bJ) (nl:List (V×V)):Cd→V→Prop
 | .f t a r,v=>∃k:Nat,c4 rows o (.cls t (ka a)) k∧v=.tup [.int 123,.tup [.int k,vi (fN nl t r)]]
 | .m t a r,v=>∃k:Nat,c4 rows o (.cls t (ka a)) k∧v=.tup [.int 40,.tup [.int k,vi (mN nl t r),.tup (rep r.g [.int 7])]]
theorem Ai.mono {rows rows':List aF} {o:bJ} {nl:List (V×V)} (h:rows<+:rows'):∀{c:Cd} {v:V} (_:Ai rows o nl c v),Ai rows' o nl c v
 | .f _ _ _,_,q=>Exists.imp (λ yy q=>⟨q.1.mono h,q.2⟩) q
 | .m _ _ _,_,q=>Exists.imp (λ yy q=>⟨q.1.mono h,q.2⟩) q
theorem sB:∀{t a:Bool},∃s,dS "AB" (bn t)=some s∧s.length+(ai a).length≤1000∧(s++ai a)∈bB∧aT (s++ai a)=.cls t (ka a)
 |false,false=>⟨"A",by decide,by decide,by decide,rfl⟩
 |false,true=>⟨"A",by decide,by decide,by decide,rfl⟩
 |true,false=>⟨"B",by decide,by decide,by decide,rfl⟩
 |true,true=>⟨"B",by decide,by decide,by decide,rfl⟩
theorem LS.putz {p B z:Nat} {S:AS} {o:bJ} {nl:List (V×V)} {s:St} {tg:Tg} {l l':List V} (L:LS s p B S o nl) (hz:s.get z=some (.list tg l)) (h:B+26≤z):LS (s.put z (.list aa l')) p B S o nl:=by
 have hl:s.len≤(s.put z (.list aa l')).len:=J3 aj.symm
 refine L.ext (L.C.frame hl (λ k yy a=>aR (J5 (JS a (JT L.b (JT (JU B 26) h))))) λ i n a e=>?_) hl λ k yy a=>aR (J5 (JS a h))
 refine (L.C.ti i n a e).2.2.imp λ as x=>⟨aA (λ h=>?_) x.1,x.2⟩
 rw [h,hz] at x
 cases x.1
noncomputable abbrev Rl (p lib B app q turn z:Nat) (l:List (Option V)):ax:=[some (.ref p),some (.int lib),some (.ref q),some (.int turn),some (.ref (p+1)),some (.int app),some (.ref (B+24)),some (.ref (B+25)),some (.ref z)]++l
theorem qg {d p B app lib q turn z:Nat} {t a:Bool} {S:AS} {o:bJ} {nl:List (V×V)} {s:St} {L:Option V→ax→St→Prop} {rest:List Y} {x9 x12 x13:Option V} {l:List (Option V)} (Ls:LS s p B S o nl) (hs:S.size<80000)
  (k:∀(k':Nat) rows' s',LS s' p B {S with rows:=rows'} o nl→S.rows<+:rows'→rows'.length≤S.rows.length+2→c4 rows' o (.cls t (ka a)) k'→s.len≤s'.len→(∀n,n<s.len→n<p+2∨p+7≤n→s'.get n=s.get n)→
   ah (aw (d+11)) rest (Rl p lib B app q turn z (x9::some (.int (bn t:Nat))::some (.str (ai a))::x12::some (.int k')::l)) s' L):
  ah (aw (d+11)) (.set (.loc 13) (.call "_law_kind" [.loc 4,.loc 6,.bin .add (.sub (.str "AB") (.loc 10)) (.loc 11)])::rest) (Rl p lib B app q turn z (x9::some (.int (bn t:Nat))::some (.str (ai a))::x12::x13::l)) s L:=by
 refine (sB (t:=t) (a:=a)).elim λ s0 e=>?_
 apply dj (vs:=[.ref (p+1),.ref (B+24),.str (s0++ai a)]) (by
  intro Q q
  apply sj (Kp _) (yq t) e.1
  exact ⟨e.2.1,q⟩)
 exact Ls.kind (d:=d+2) hs e.2.2.1 λ k' rows' s' h1 h2 h3 h4 h5 h6=>k k' rows' s' h1 h2 h3 (e.2.2.2▸h4) h5 h6
theorem xn {d p B lo hi z app lib turn:Nat} {R:Rf} {de:De} {S:AS} {o:bJ} {nl:List (V×V)} {σ:St} {L:Option V→ax→St→Prop} {rest:List Y} {x9 x10 x11 x12 x13:Option V} {xs:List (Option V)}
  (Ls:LS σ p B S o nl) (D:cg σ R lo hi de) (hhi:hi≤B) (hdis:hi≤p∨p+14≤lo) (okc:∀c∈de.code,c.ok de.f0 de.f1 de.m0 de.m1) (hcl:de.code.length≤4) (hz:σ.get z=some (.list aa [])) (hzB:B+26≤z)
  (hF:∀t,∀r∈de.f t,ae nl (kF t r)=some (vi (fN nl t r))) (hM:∀t,∀r∈de.m t,ae nl (kM t r)=some (vi (mN nl t r))) (hg:∀t,∀r∈de.m t,r.g≤1) (hs:S.size<60000)
  (k:∀σ' rows' vs x9 x10 x11 x12 x13,LS σ' p B {S with rows:=rows'} o nl→S.rows<+:rows'→rows'.length≤S.rows.length+8→σ'.get z=some (.list aa vs)→aS (Ai rows' o nl) de.code vs→σ.len≤σ'.len→(∀n,n<σ.len→n<p+2∨p+7≤n→n≠z→σ'.get n=σ.get n)→
   ah (aw (d+11)) rest (Rl p lib B app R.q turn z (x9::x10::x11::x12::x13::xs)) σ' L):
  ah (aw (d+11)) (.for_ true [9,10,11,12] (.sub (.loc 2) (.str "code")) [.set (.loc 13) (.call "_law_kind" [.loc 4,.loc 6,.bin .add (.sub (.str "AB") (.loc 10)) (.loc 11)]),.ite (.cmp .eq (.loc 9) (.str "fields")) [.ex (.lapp (.loc 8) (.tup [.int 123,.tup [.loc 13,.sub (.loc 7) (.tup [.loc 9,.loc 10,.loc 12])]]))] [.ex (.lapp (.loc 8) (.tup [.int 40,.tup [.loc 13,.sub (.loc 7) (.tup [.loc 9,.loc 10,.loc 12]),.bin .mul (.tup [.int 7]) (.sub (.loc 12) (.int 1))]]))]]::rest)
   (Rl p lib B app R.q turn z (x9::x10::x11::x12::x13::xs)) σ L:=by
 refine D.ex.elim λ al h=>?_
 have hRc:R.c<B:=JS D.bd.2.2.2.2.2.2.2.1.2 hhi
 have hRp:R.c<p+2∨p+7≤R.c:=bP (hdis.imp (JS D.bd.2.2.2.2.2.2.2.1.2) λ h=>JT h D.bd.2.2.2.2.2.2.2.1.1)
 have hRz:R.c≠z:=J5 (JS hRc (JT (JU B 26) hzB))
 have hpz:p+7≤z:=JT (JW (show 7≤14 by decide) p) (JT Ls.b (JT (JU B 26) hzB))
 apply dl (by dsimp! [dP h.1 h.2.2.2.2.1,gu D.c])
 refine fu (λ l ρ s=>∀P:Prop,(∀done rows' vs x9 x10 x11 x12 x13,done++l=de.code→LS s p B {S with rows:=rows'} o nl→S.rows<+:rows'→rows'.length≤S.rows.length+2*done.length→s.get z=some (.list aa vs)→aS (Ai rows' o nl) done vs→σ.len≤s.len→(∀n,n<σ.len→n<p+2∨p+7≤n→n≠z→s.get n=σ.get n)→
   ρ=Rl p lib B app R.q turn z (x9::x10::x11::x12::x13::xs)→P)→P) (λ ρ s I=>I _ λ done rows' vs x9 x10 x11 x12 x13 e L' h1 h2 h3 h4 h5 h6 e'=>⟨(h6 _ (ac D.c) hRp hRz).trans D.c,?_⟩) (λ c l ρ s I=>I _ λ done rows' vs x9 x10 x11 x12 x13 e L' h1 h2 h3 h4 h5 h6 e'=>⟨(h6 _ (ac D.c) hRp hRz).trans D.c,λ K hK=>?_⟩)
  λ P k=>k [] S.rows [] x9 x10 x11 x12 x13 rfl Ls (J1 _) (Kd _) hz .nil (Kd _) (λ yy yy yy yy=>rfl) rfl
 ·subst e'
  rw [List.append_nil] at e
  subst e
  exact k s rows' vs _ _ _ _ _ L' h1 (JT h2 (JW (KJ 2 hcl) _)) h3 h4 h5 h6
 ·subst e'
  have hc:c∈de.code:=by rw [←e];exact KS _ Ky
  have hok:=okc c hc
  have hdl:done.length<4:=by rw [←e,List.length_append] at hcl;exact JS (KD (Nat.succ_pos _)) hcl
  have hsz:AS.size {S with rows:=rows'}<70000:=AS.szL hs h2 (JT (JW (KJ 2 (Kb hdl)) _) (by decide))
  have hvl:vs.length<aN:=by rw [←h4.1];exact JY hdl (by decide)
  have fin:∀(k':Nat) rows2 s2 v x9 x10 x11 x12 x13,LS s2 p B {S with rows:=rows2} o nl→rows'<+:rows2→rows2.length≤rows'.length+2→s.len≤s2.len→(∀n,n<s.len→n<p+2∨p+7≤n→s2.get n=s.get n)→Ai rows2 o nl c v→
    K none (Rl p lib B app R.q turn z (x9::x10::x11::x12::x13::xs)) (s2.put z (.list aa (vs++[v]))):=by
   intro k' rows2 s2 v x9 x10 x11 x12 x13 L2 g1 g2 g4 g5 hv
   have hz2:=(g5 _ (ac h3) (.inr hpz)).trans h3
   refine hK _ _ λ P k=>k (done++[c]) rows2 (vs++[v]) _ _ _ _ _ (by rw [List.append_assoc];exact e) (L2.putz hz2 hzB) (h1.trans g1) (by rw [List.length_append];exact JT g2 (Ki h2 2)) (aX (ac hz2)) ((h4.mono λ yy yy q=>q.mono g1).snoc hv) (JT h5 (JT g4 (J3 aj.symm)))
    (λ n a b c=>(aR c).trans ((g5 n (JS a h5) b).trans (h6 n a b c))) rfl
  cases c with
  |f t a r=>
   refine ⟨rfl,?_⟩
   refine qg (t:=t) (a:=a) L' (JY hsz (by decide)) λ k' rows2 s2 L2 g1 g2 g3 g4 g5=>?_
   have hz2:=(g5 _ (ac h3) (.inr hpz)).trans h3
   apply aU (pT rfl)
   apply cJ (by dsimp!) hz2 (by dsimp! [jU L2.num xx (hF t r hok)]) hvl
   apply bE
   exact fin k' rows2 s2 _ _ _ _ _ _ L2 g1 g2 g4 g5 ⟨k',g3,rfl⟩
  |m t a r=>
   refine ⟨rfl,?_⟩
   refine qg (t:=t) (a:=a) L' (JY hsz (by decide)) λ k' rows2 s2 L2 g1 g2 g3 g4 g5=>?_
   have hz2:=(g5 _ (ac h3) (.inr hpz)).trans h3
   apply ay (pT rfl)
   apply cJ (by dsimp!) hz2 (by
    intro Q q
    apply jU L2.num eX (hM t r hok)
    apply dO (v:=vi r.g) rfl
    exact ⟨Kp _,KP.mpr (JT (hg t r hok) (show 1≤2 by decide)),rfl,q⟩) hvl
   apply bE
   exact fin k' rows2 s2 _ _ _ _ _ _ L2 g1 g2 g4 g5 ⟨k',g3,rfl⟩
noncomputable def hN (nl:List (V×V)) (x:cM):Nat:=mN nl x.t x.r
structure NI (de:De) (nl:List (V×V)):Prop where
 d:∀t,∀r∈de.m t,ae nl (kM t r)=some (vi (mN nl t r))
 i:∀t r t' r',r∈de.m t→r'∈de.m t'→mN nl t r=mN nl t' r'→t=t'∧r=r'
theorem NI.one {de:De} {nl:List (V×V)} (N:NI de nl):∀{x y:cM} (_:x.ok de.m0 de.m1) (_:y.ok de.m0 de.m1) (_:hN nl x=hN nl y),x=y
 |⟨t,r⟩,⟨t',r'⟩,hx,hy,e=>by
  have h:=N.i t r t' r' hx hy e
  rw [h.1,h.2]
theorem NI.look {de:De} {nl:List (V×V)} (N:NI de nl) {x:cM} (hx:x.ok de.m0 de.m1):ae nl (.tup [.str "methods",.int (bn x.t),x.r.v])=some (vi (hN nl x)):=N.d x.t x.r hx
theorem vH {α:Type} {P:α→V→Prop} (fn:∀a b b',P a b→P a b'→b=b') (inj:∀a a' b,P a b→P a' b→a=a') {acc:List α} {vs:List V} {a:α} {v:V} (h:aS P acc vs) (p:P a v):aS P (if a∈acc then acc else acc++[a]) (d8 vs v):=by
 unfold d8
 by_cases hm:a∈acc
 ·rw [if_pos hm,if_pos ((h.mem fn inj p).mpr hm)];exact h
 ·rw [if_neg hm,if_neg (λ e=>hm ((h.mem fn inj p).mp e))];exact h.snoc p
theorem uZ {α:Type} (acc:List α) (a:α):(if a∈acc then acc else acc++[a]).length≤acc.length+1:=by
 by_cases hm:a∈acc
 ·rw [if_pos hm];exact Kt _
 ·rw [if_neg hm,List.length_append];exact Kd _
theorem aS.pus {α:Type} {P:α→V→Prop} {l:List α} {vs:List V} (h:aS P l vs) (q:∀a v,P a v→pu 8 v=true):Mine.L3.pus 8 vs=true:=by
 rw [dW]
 intro v hv
 refine (KT hv).elim λ i hi=>?_
 have hl:=(Ka.mp hi).1
 exact q _ _ (h.2 i _ v (JZ (h.1▸hl)) hi)
noncomputable def RV {α:Type} (okp:α→Prop) (tk:α→Mine.L3.K) (enc:α→Nat→V) (rows:List aF) (o:bJ) (a:α) (v:V):Prop:=okp a∧∃k:Nat,c4 rows o (tk a) k∧v=enc a k
section
variable {α:Type} {okp:α→Prop} {tk:α→Mine.L3.K} {enc:α→Nat→V} {rows rows':List aF} {o:bJ} {σ:St} {p:Nat}
theorem RV.fn (T:eZ σ p rows) (a:α) (b b':V) (h:RV okp tk enc rows o a b) (h':RV okp tk enc rows o a b'):b=b':=
 h.2.elim λ yy q=>h'.2.elim λ yy q'=>q.2.trans ((congrArg (enc a) (K5 (c4.fn T q.1 q'.1))).trans q'.2.symm)
theorem RV.inj (T:eZ σ p rows) (ok:o.Ok) (hi:∀a a' k k',okp a→okp a'→enc a k=enc a' k'→k=k'∧(tk a=tk a'→a=a')) (a a':α) (b:V) (h:RV okp tk enc rows o a b) (h':RV okp tk enc rows o a' b):a=a':=
 h.2.elim λ k q=>h'.2.elim λ k' q'=>by
  have e:=hi a a' k k' h.1 h'.1 (q.2.symm.trans q'.2)
  exact e.2 (c4.inj T ok q.1 (e.1▸q'.1))
theorem RV.mono (h:rows<+:rows') {a:α} {v:V} (q:RV okp tk enc rows o a v):RV okp tk enc rows' o a v:=⟨q.1,q.2.imp λ yy q=>⟨q.1.mono h,q.2⟩⟩
theorem RV.pu (hp:∀a k,pu 8 (enc a k)=true) (a:α) (v:V) (q:RV okp tk enc rows o a v):pu 8 v=true:=q.2.elim λ k q=>q.2▸hp a k
end
noncomputable abbrev HD (rows:List aF) (o:bJ) (nl:List (V×V)) (m0 m1:List Mr):Im→V→Prop:=RV (λ i=>i.ok m0 m1) (λ i=>.cls true (ka i.a)) (λ i k=>.tup [vi (hN nl i.b),.int k,vi (mN nl true i.r)]) rows o
noncomputable abbrev EP (rows:List aF) (o:bJ) (nl:List (V×V)) (m0 m1:List Mr):Pr→V→Prop:=RV (λ i=>i.ok m0 m1) (λ i=>aT i.tm) (λ i k=>.tup [.str "p",.int k,vi (hN nl i.x),vi (hN nl i.y),.tup []]) rows o
noncomputable abbrev Ja (rows:List aF) (o:bJ) (nl:List (V×V)) (m0 m1:List Mr):Pr→V→Prop:=RV (λ i=>i.ok m0 m1) (λ i=>aT i.tm) (λ i k=>.tup [.str "p",.int k,vi (hN nl i.x),vi (hN nl i.y)]) rows o
theorem xE:∀{a b:Bool} (_:ka a=ka b),a=b
 |false,false,_=>rfl
 |true,true,_=>rfl
 |false,true,h=>absurd h (by decide)
 |true,false,h=>absurd h (by decide)
theorem dh {a b:V} {l l':List V} (h:V.tup (a::l)=.tup (b::l')):a=b∧V.tup l=.tup l':=by
 injection h with h
 injection h with h1 h2
 exact ⟨h1,congrArg V.tup h2⟩
theorem HD.ij {de:De} {nl:List (V×V)} (N:NI de nl):∀(a a':Im) (k k':Nat),a.ok de.m0 de.m1→a'.ok de.m0 de.m1→V.tup [vi (hN nl a.b),.int k,vi (mN nl true a.r)]=.tup [vi (hN nl a'.b),.int k',vi (mN nl true a'.r)]→k=k'∧(Mine.L3.K.cls true (ka a.a)=.cls true (ka a'.a)→a=a')
 |⟨b,a,r⟩,⟨b',a',r'⟩,k,k',h,h',e=>by
  have e1:=dh e
  have e2:=dh e1.2
  refine ⟨aO e2.1,λ e0=>?_⟩
  injection e0 with _ e0
  rw [show b=b' from N.one h.1 h'.1 (aO e1.1),show r=r' from (N.i true r true r' h.2 h'.2 (aO (dh e2.2).1)).2,show a=a' from xE e0]
theorem EP.ij {de:De} {nl:List (V×V)} (N:NI de nl) (t:List V):∀(a a':Pr) (k k':Nat),a.ok de.m0 de.m1→a'.ok de.m0 de.m1→V.tup (.str "p"::.int k::vi (hN nl a.x)::vi (hN nl a.y)::t)=.tup (.str "p"::.int k'::vi (hN nl a'.x)::vi (hN nl a'.y)::t)→k=k'∧(aT a.tm=aT a'.tm→a=a')
 |⟨t,x,y⟩,⟨t',x',y'⟩,k,k',h,h',e=>by
  have e1:=dh (dh e).2
  have e2:=dh e1.2
  refine ⟨aO e1.1,λ e0=>?_⟩
  rw [show t=t' from ga _ h.1 _ h'.1 e0,show x=x' from N.one h.2.1 h'.2.1 (aO e2.1),show y=y' from N.one h.2.2 h'.2.2 (aO (dh e2.2).1)]
theorem on {α:Type} {okp:α→Prop} {tk:α→Mine.L3.K} {enc:α→Nat→V} {v:α→V} {ls:List α} {nm:String} {vars:List Nat} {y:Y} {d p B w z zl app lib turn q:Nat} {S:AS} {o:bJ} {nl al:List (V×V)} {σ:St} {L:Option V→ax→St→Prop} {rest:List Y} {x9 x10 x11 x12 x13 x14 x15 x16 x17 x18 x19:Option V}
  (Ls:LS σ p B S o nl) (hq:σ.get q=some (.dict aa 1 al)) (he:ae al (.str nm)=some (.ref zl)) (hzl:σ.get zl=some (.list aa (ls.map v))) (hzo:zl<p∨p+14≤zl) (hzB:zl<B) (hw:B≤w) (hcl:ls.length≤4) (hz:σ.get w=some (.list aa [])) (hs:S.size<60000) (hok:∀c∈ls,okp c)
  (ij:∀a a' k k',okp a→okp a'→enc a k=enc a' k'→k=k'∧(tk a=tk a'→a=a')) (hp:∀a k,pu 8 (enc a k)=true)
  (step:∀c,okp c→∀s rows' vs x9 x10 x11 x12 x13 x14 x15 x16 x17 x18 x19 (K:Option V→ax→St→Prop),LS s p B {S with rows:=rows'} o nl→AS.size {S with rows:=rows'}<70000→s.get w=some (.list aa vs)→vs.length<1000→pus 8 vs=true→(∀n,n<σ.len→n<p+2∨p+7≤n→n≠w→s.get n=σ.get n)→
   (∀(k':Nat) rows2 s3 x9 x10 x11 x12 x13 x14 x15 x16 x17 x18 x19,LS s3 p B {S with rows:=rows2} o nl→rows'<+:rows2→rows2.length≤rows'.length+2→c4 rows2 o (tk c) k'→s3.get w=some (.list aa (d8 vs (enc c k')))→s.len≤s3.len→(∀n,n<s.len→n<p+2∨p+7≤n→n≠w→s3.get n=s.get n)→
    K none (Rl p lib B app q turn z [x9,x10,x11,x12,x13,x14,x15,x16,x17,x18,x19]) s3)→
   tV (Rl p lib B app q turn z [x9,x10,x11,x12,x13,x14,x15,x16,x17,x18,x19]) true vars (v c) λ ρ''=>ah (aw (d+11)) [y] ρ'' s K)
  (k:∀σ' rows' vs x9 x10 x11 x12 x13 x14 x15 x16 x17 x18 x19,LS σ' p B {S with rows:=rows'} o nl→S.rows<+:rows'→rows'.length≤S.rows.length+8→σ'.get w=some (.list aa vs)→aS (RV okp tk enc rows' o) (cZ ls) vs→σ.len≤σ'.len→(∀n,n<σ.len→n<p+2∨p+7≤n→n≠w→σ'.get n=σ.get n)→
   ah (aw (d+11)) rest (Rl p lib B app q turn z [x9,x10,x11,x12,x13,x14,x15,x16,x17,x18,x19]) σ' L):
  ah (aw (d+11)) (.for_ true vars (.sub (.loc 2) (.str nm)) [y]::rest) (Rl p lib B app q turn z [x9,x10,x11,x12,x13,x14,x15,x16,x17,x18,x19]) σ L:=by
 have hlz:=ac hzl
 have hzw:zl≠w:=J5 (JS hzB hw)
 apply dl (by dsimp! [dP hq he,gu hzl])
 refine fu (λ l ρ s=>∀P:Prop,(∀acc rows' vs x9 x10 x11 x12 x13 x14 x15 x16 x17 x18 x19,kH acc l=cZ ls→acc.length+l.length≤4→(∀c∈l,okp c)→LS s p B {S with rows:=rows'} o nl→S.rows<+:rows'→rows'.length+2*l.length≤S.rows.length+8→s.get w=some (.list aa vs)→aS (RV okp tk enc rows' o) acc vs→σ.len≤s.len→(∀n,n<σ.len→n<p+2∨p+7≤n→n≠w→s.get n=σ.get n)→
   ρ=Rl p lib B app q turn z [x9,x10,x11,x12,x13,x14,x15,x16,x17,x18,x19]→P)→P) (λ ρ s I=>I _ λ acc rows' vs x9 x10 x11 x12 x13 x14 x15 x16 x17 x18 x19 e hl ho L' h1 h2 h3 h4 h5 h6 e'=>⟨(h6 _ hlz (bP hzo) hzw).trans hzl,?_⟩) (λ c l ρ s I=>I _ λ acc rows' vs x9 x10 x11 x12 x13 x14 x15 x16 x17 x18 x19 e hl ho L' h1 h2 h3 h4 h5 h6 e'=>⟨(h6 _ hlz (bP hzo) hzw).trans hzl,λ K hK=>?_⟩)
  λ P k=>k [] S.rows [] x9 x10 x11 x12 x13 x14 x15 x16 x17 x18 x19 rfl (by rw [List.length_nil,Nat.zero_add];exact hcl) hok Ls (J1 _) (JW (KJ 2 hcl) _) hz .nil (Kd _) (λ yy yy yy yy=>rfl) rfl
 ·subst e'
  exact k s rows' vs _ _ _ _ _ _ _ _ _ _ _ L' h1 h2 h3 (e▸h4) h5 h6
 ·subst e'
  rw [List.length_cons] at hl h2
  have hsz:AS.size {S with rows:=rows'}<70000:=AS.szL hs (JT (JU _ _) h2) (by decide)
  refine step c (ho c Ky) s rows' vs _ _ _ _ _ _ _ _ _ _ _ K L' hsz h3 (h4.1▸JV (JT (JU _ _) hl) (by decide)) (h4.pus (RV.pu hp)) h6 λ k' rows2 s3 x9 x10 x11 x12 x13 x14 x15 x16 x17 x18 x19 L3 g1 g2 g3 g4 g5 g6=>?_
  have st:=uZ acc c
  exact hK _ _ λ P k=>k _ rows2 _ _ _ _ _ _ _ _ _ _ _ _ e (AT st hl) (λ b hb=>ho b (KK _ hb)) L3 (h1.trans g1) (AT g2 h2) g4 (vH (RV.fn L3.C.kt) (RV.inj L3.C.kt L3.ok ij) (h4.mono λ yy yy q=>q.mono g1) ⟨ho c Ky,k',g3,rfl⟩) (JT h5 g5) (λ n a b c=>(g6 n (JS a h5) b c).trans (h6 n a b c)) rfl
section
variable {d p B lo hi z app lib turn fr mr cc fi:Nat} {R:Rf} {de:De} {S:AS} {o:bJ} {nl:List (V×V)} {σ:St} {L:Option V→ax→St→Prop} {rest:List Y} {x9 x10 x11 x12 x13 x14 x15 x16 x17 x18 x19:Option V}
  (Ls:LS σ p B S o nl) (D:cg σ R lo hi de) (hhi:hi≤B) (hdis:hi≤p∨p+14≤lo) (N:NI de nl) (ht:S.tz[o.a]? =some (some (B+1,app))) (hn:σ.get (B+1)=some (cU (B+1) o.a "A" fr mr app cc fi)) (hs:S.size<60000)
include Ls D hhi hdis N ht hn hs
theorem vb (okc:∀c∈de.impls,c.ok de.m0 de.m1) (hcl:de.impls.length≤4) (hz:σ.get (B+1+7)=some (.list aa []))
  (k:∀σ' rows' vs x9 x10 x11 x12 x13 x14 x15 x16 x17 x18 x19,LS σ' p B {S with rows:=rows'} o nl→S.rows<+:rows'→rows'.length≤S.rows.length+8→σ'.get (B+1+7)=some (.list aa vs)→aS (HD rows' o nl de.m0 de.m1) (cZ de.impls) vs→σ.len≤σ'.len→(∀n,n<σ.len→n<p+2∨p+7≤n→n≠B+1+7→σ'.get n=σ.get n)→
   ah (aw (d+11)) rest (Rl p lib B app R.q turn z [x9,x10,x11,x12,x13,x14,x15,x16,x17,x18,x19]) σ' L):
  ah (aw (d+11)) (.for_ true [14,11,15] (.sub (.loc 2) (.str "impls")) [.ex (.call "add_impl" [.loc 0,.sub (.loc 6) (.int 0),.sub (.loc 7) (.bin .add (.tup [.str "methods"]) (.loc 14)),.call "_law_kind" [.loc 4,.loc 6,.bin .add (.str "B") (.loc 11)],.sub (.loc 7) (.tup [.str "methods",.int 1,.loc 15])])]::rest)
   (Rl p lib B app R.q turn z [x9,x10,x11,x12,x13,x14,x15,x16,x17,x18,x19]) σ L:=by
 refine D.ex.elim λ al h=>?_
 have hb:=D.bd.2.2.2.2.2.2.2.2.1
 have hpn:p+14≤B+1:=JT Ls.b (Kt B)
 refine on Ls h.1 h.2.2.2.2.2.1 D.i (hdis.imp (JS hb.2) λ h=>JT h hb.1) (JS hb.2 hhi) (JU B 8) hcl hz hs okc (HD.ij N) (λ a k=>rfl) ?_ k
 intro c ok s rows' vs x9 x10 x11 x12 x13 x14 x15 x16 x17 x18 x19 K L' hsz gz hvl hpu fr6 fin
 have B1:("B".length+(ai c.a).length≤1000)∧("B"++ai c.a)∈bB∧aT ("B"++ai c.a)=.cls true (ka c.a):=by cases c.a;exact ⟨by decide,by decide,rfl⟩;exact ⟨by decide,by decide,rfl⟩
 refine ⟨rfl,?_⟩
 apply fg
 apply cy
 apply aE (pX rfl)
 apply aE (by dsimp! [bO L'.own rfl])
 apply aE (by dsimp! [And.intro (show 3≤aN by decide),jU L'.num eX (N.look ok.1)])
 apply gZ (vs:=[.ref (p+1),.ref (B+24),.str ("B"++ai c.a)]) (by dsimp! [And.intro B1.1])
 refine L'.kind (d:=d+2) (JY hsz (by decide)) B1.2.1 λ k' rows2 s2 L2 g1 g2 g3 g4 g5=>?_
 apply aE (by dsimp! [jU L2.num (eX (t:=true)) (N.d true c.r ok.2)])
 have hw:p+7≤B+1+7:=Ki (JT (JU p 14) hpn) 7
 have hn2:=(g5 _ (JS (J0 (show 1<26 by decide) B) L'.len) (bP (.inr hpn))).trans ((fr6 _ (ac hn) (bP (.inr hpn)) (nf (a:=B) (i:=1) (j:=8) rfl)).trans hn)
 refine tr (d:=d+9) L2.C ht hn2 hvl hpu ((g5 _ (ac gz) (.inr hw)).trans gz) rfl λ s3 C3 l3 g6 f3=>?_
 apply bE
 exact fin k' rows2 s3 _ _ _ _ _ _ _ _ _ _ _ (L2.ext C3 (J3 l3.symm) λ k a yy=>f3 k (J8 (JS (J0 (show 8<24 by decide) B) a))) g1 g2 (B1.2.2▸g3) g6 (JT g4 (J3 l3.symm)) λ n a b c=>(f3 n c).trans (g5 n a b)
theorem u9 (okc:∀c∈de.props,c.ok de.m0 de.m1) (hcl:de.props.length≤4) (hz:σ.get (B+1+8)=some (.list aa []))
  (k:∀σ' rows' vs x9 x10 x11 x12 x13 x14 x15 x16 x17 x18 x19,LS σ' p B {S with rows:=rows'} o nl→S.rows<+:rows'→rows'.length≤S.rows.length+8→σ'.get (B+1+8)=some (.list aa vs)→aS (EP rows' o nl de.m0 de.m1) (cZ de.props) vs→σ.len≤σ'.len→(∀n,n<σ.len→n<p+2∨p+7≤n→n≠B+1+8→σ'.get n=σ.get n)→
   ah (aw (d+11)) rest (Rl p lib B app R.q turn z [x9,x10,x11,x12,x13,x14,x15,x16,x17,x18,x19]) σ' L):
  ah (aw (d+11)) (.for_ true [16,17,18,19] (.sub (.loc 2) (.str "props")) [.ex (.call "add_prop" [.loc 0,.sub (.loc 6) (.int 0),.loc 16,.call "_law_kind" [.loc 4,.loc 6,.loc 17],.sub (.loc 7) (.bin .add (.tup [.str "methods"]) (.loc 18)),.sub (.loc 7) (.bin .add (.tup [.str "methods"]) (.loc 19)),.tup []])]::rest)
   (Rl p lib B app R.q turn z [x9,x10,x11,x12,x13,x14,x15,x16,x17,x18,x19]) σ L:=by
 refine D.ex.elim λ al h=>?_
 have hb:=D.bd.2.2.2.2.2.2.2.2.2.1
 have hpn:p+14≤B+1:=JT Ls.b (Kt B)
 refine on Ls h.1 h.2.2.2.2.2.2.1 D.p (hdis.imp (JS hb.2) λ h=>JT h hb.1) (JS hb.2 hhi) (JU B 9) hcl hz hs okc (EP.ij N _) (λ a k=>rfl) ?_ k
 intro c ok s rows' vs x9 x10 x11 x12 x13 x14 x15 x16 x17 x18 x19 K L' hsz gz hvl hpu fr6 fin
 refine ⟨rfl,?_⟩
 apply fg
 apply cy
 apply aE (pX rfl)
 apply aE (by dsimp! [bO L'.own rfl])
 apply aE (pX rfl)
 apply gZ (pS rfl)
 refine L'.kind (d:=d+2) (JY hsz (by decide)) ok.1 λ k' rows2 s2 L2 g1 g2 g3 g4 g5=>?_
 apply aE (by dsimp! [And.intro (show 3≤aN by decide),jU L2.num eX (N.look ok.2.1)])
 apply aE (by dsimp! [And.intro (show 3≤aN by decide),jU L2.num eX (N.look ok.2.2)])
 apply aE (pX rfl)
 have hw:p+7≤B+1+8:=JT (JW (by decide) p) (JT hpn (JU _ 8))
 have hn2:=(g5 _ (JS (J0 (show 1<26 by decide) B) L'.len) (bP (.inr hpn))).trans ((fr6 _ (ac hn) (bP (.inr hpn)) (nf (a:=B) (i:=1) (j:=9) rfl)).trans hn)
 refine tq (d:=d+9) L2.C ht hn2 hvl hpu ((g5 _ (ac gz) (.inr hw)).trans gz) rfl λ s3 C3 l3 g6 f3=>?_
 apply bE
 exact fin k' rows2 s3 _ _ _ _ _ _ _ _ _ _ _ (L2.ext C3 (J3 l3.symm) λ k a yy=>f3 k (J8 (JS (J0 (show 9<24 by decide) B) a))) g1 g2 g3 g6 (JT g4 (J3 l3.symm)) λ n a b c=>(f3 n c).trans (g5 n a b)
theorem sN (okc:∀c∈de.events,c.ok de.m0 de.m1) (hcl:de.events.length≤4) (hz:σ.get (B+1+9)=some (.list aa []))
  (k:∀σ' rows' vs x9 x10 x11 x12 x13 x14 x15 x16 x17 x18 x19,LS σ' p B {S with rows:=rows'} o nl→S.rows<+:rows'→rows'.length≤S.rows.length+8→σ'.get (B+1+9)=some (.list aa vs)→aS (Ja rows' o nl de.m0 de.m1) (cZ de.events) vs→σ.len≤σ'.len→(∀n,n<σ.len→n<p+2∨p+7≤n→n≠B+1+9→σ'.get n=σ.get n)→
   ah (aw (d+11)) rest (Rl p lib B app R.q turn z [x9,x10,x11,x12,x13,x14,x15,x16,x17,x18,x19]) σ' L):
  ah (aw (d+11)) (.for_ true [16,17,18,19] (.sub (.loc 2) (.str "events")) [.ex (.call "add_event" [.loc 0,.sub (.loc 6) (.int 0),.loc 16,.call "_law_kind" [.loc 4,.loc 6,.loc 17],.sub (.loc 7) (.bin .add (.tup [.str "methods"]) (.loc 18)),.sub (.loc 7) (.bin .add (.tup [.str "methods"]) (.loc 19))])]::rest)
   (Rl p lib B app R.q turn z [x9,x10,x11,x12,x13,x14,x15,x16,x17,x18,x19]) σ L:=by
 refine D.ex.elim λ al h=>?_
 have hb:=D.bd.2.2.2.2.2.2.2.2.2.2.1
 have hpn:p+14≤B+1:=JT Ls.b (Kt B)
 refine on Ls h.1 h.2.2.2.2.2.2.2.1 D.e (hdis.imp (JS hb.2) λ h=>JT h hb.1) (JS hb.2 hhi) (JU B 10) hcl hz hs okc (EP.ij N _) (λ a k=>rfl) ?_ k
 intro c ok s rows' vs x9 x10 x11 x12 x13 x14 x15 x16 x17 x18 x19 K L' hsz gz hvl hpu fr6 fin
 refine ⟨rfl,?_⟩
 apply fg
 apply cy
 apply aE (pX rfl)
 apply aE (by dsimp! [bO L'.own rfl])
 apply aE (pX rfl)
 apply gZ (pS rfl)
 refine L'.kind (d:=d+2) (JY hsz (by decide)) ok.1 λ k' rows2 s2 L2 g1 g2 g3 g4 g5=>?_
 apply aE (by dsimp! [And.intro (show 3≤aN by decide),jU L2.num eX (N.look ok.2.1)])
 apply aE (by dsimp! [And.intro (show 3≤aN by decide),jU L2.num eX (N.look ok.2.2)])
 have hw:p+7≤B+1+9:=JT (JW (by decide) p) (JT hpn (JU _ 9))
 have hn2:=(g5 _ (JS (J0 (show 1<26 by decide) B) L'.len) (bP (.inr hpn))).trans ((fr6 _ (ac hn) (bP (.inr hpn)) (nf (a:=B) (i:=1) (j:=10) rfl)).trans hn)
 refine rC (d:=d+9) L2.C ht hn2 hvl hpu ((g5 _ (ac gz) (.inr hw)).trans gz) rfl λ s3 C3 l3 g6 f3=>?_
 apply bE
 exact fin k' rows2 s3 _ _ _ _ _ _ _ _ _ _ _ (L2.ext C3 (J3 l3.symm) λ k a yy=>f3 k (J8 (JS (J0 (show 10<24 by decide) B) a))) g1 g2 g3 g6 (JT g4 (J3 l3.symm)) λ n a b c=>(f3 n c).trans (g5 n a b)
end
theorem c7.app {σ:St} {b:Nat} {os os':List Mine.O} (B:c7 σ b os) (B':c7 σ (b+os.length) os'):c7 σ b (os++os'):=⟨λ i o e=>by
 by_cases h:i<os.length
 ·rw [List.getElem?_append_left h] at e;exact B.g i e
 ·have h:=Nat.le_of_not_lt h
  rw [List.getElem?_append_right h] at e
  have:=B'.g _ e
  rwa [Lh,Nat.add_sub_cancel' h] at this⟩
theorem c7.one {σ:St} {b:Nat} {o:Mine.O} (g:σ.get b=some o):c7 σ b [o]:=⟨λ i o' e=>by
 cases i with
 |zero=>cases e;exact g
 |succ i=>exact absurd e (by rw [List.getElem?_cons_succ];exact λ h=>nomatch h)⟩
theorem yw {σ:St} {n m:Nat} {t t':Tg} {l r:List V} {Q:V→St→Prop} (g:σ.get n=some (.list t l)) (g':σ.get m=some (.list t' r)) (h:l.length+r.length≤aN) (q:Q (.ref σ.len) (σ.new (.list aa (l++r)))):iD .add (.ref n) (.ref m) σ Q:=by
 unfold iD;simp only [g,g'];exact ⟨h,q⟩
theorem kL {C:ak} {ρ:ax} {σ:St} {xs:List X} {vs:List V} {Q:V→St→Prop} (h:∀Q,Q vs σ→aI C xs ρ σ Q) (q:Q (.ref σ.len) (σ.new (.list aa vs))):aH C (.list xs) ρ σ Q:=h (λ vs σ1=>Q (.ref σ1.len) (σ1.new (.list aa vs))) q
noncomputable def GQ (B a b lib asm:Nat):List Mine.O:=.list aa [.str "T"]::yC (B+1) ["T"] (cU (B+1) a "A" (B+1+5) (B+1+6) asm 0 0)++.list aa [.str "T"]::yC (B+12) ["T"] (cU (B+12) b "B" (B+12+5) (B+12+6) asm 0 0)++[.list aa [vi a,vi b],.list aa [vi lib],.list aa [vi a,vi b,vi lib],.dict aa 2 []]
theorem GP {d p lib turn q:Nat} {S:AS} {σ:St} {L:Option V→ax→St→Prop} (C:SC σ p S) (hs:S.size<30000) (hl:64≤lib) (hl2:lib<S.tz.length)
  (k:∀σ' S',LS σ' p σ.len S' ⟨S.tz.length,S.tz.length+1,lib⟩ []→S.le S'→S'.size≤S.size+3→S'.tz=S.tz++[some (σ.len+1,S.az.length)]++[some (σ.len+12,S.az.length)]→S'.az=S.az++["app"]→S'.rows=S.rows→σ'.len=σ.len+26→
   c7 σ' σ.len (GQ σ.len S.tz.length (S.tz.length+1) lib S.az.length)→(∀k,k<σ.len→(k<p∨p+14≤k)→σ'.get k=σ.get k)→
   ah (aw (d+11)) (eU.drop 4) [some (.ref p),some (.int lib),some (.ref q),some (.int turn),some (.ref (p+1)),some (.int S.az.length),some (.ref (σ.len+24)),some (.ref (σ.len+25)),none,none,none,none,none,none,none,none,none,none,none,none] σ' L):
  ah (aw (d+11)) eU [some (.ref p),some (.int lib),some (.ref q),some (.int turn),none,none,none,none,none,none,none,none,none,none,none,none,none,none,none,none] σ L:=by
 have hlen:=C.len
 have hsz:S.size+3<90000:=JY (Kv hs 3) (by decide)
 apply br (by dsimp! [C.inst])
 apply dj (pS rfl)
 refine je (d:=d+10) C (JY hs (by decide)) λ s1 C1 l1 f1=>?_
 apply bq
 have g1:∀k,k<p∨p+14≤k→s1.get k=σ.get k:=λ k a=>f1 k (cQ a (by decide))
 have e1:(s1.new (.list aa [.str "T"])).len=σ.len+1:=by rw [aD,l1]
 refine ⟨trivial,?_⟩
 apply cy
 refine eS (d:=d+9) (ps:=["T"]) (C1.frame' (Kb aQ) λ k yy b=>aP b) (JV (J3 AS.szA) (JV (mh S.size (a:=1) (b:=3) rfl) hsz)) be (.inl (by rw [l1];exact hlen)) (.inr rfl) λ s2 C2 B2 l2 f2=>?_
 rw [e1] at C2 B2 l2 f2
 have e2:(s2.new (.list aa [.str "T"])).len=σ.len+12:=by rw [aD,l2]
 refine ⟨trivial,?_⟩
 apply cy
 refine eS (d:=d+9) (ps:=["T"]) (C2.frame' (Kb aQ) λ k yy b=>aP b) (JV (J3 ((AS.szT (S:={S with az:=S.az++["app"]})).trans (congrArg (· +1) AS.szA))) (JV (mh S.size (a:=2) (b:=3) rfl) hsz)) be (.inl (by rw [l2];exact JT hlen (JU σ.len 11))) (.inr rfl) λ s3 C3 B3 l3 f3=>?_
 rw [e2] at C3 B3 l3 f3
 refine ⟨trivial,?_⟩
 have e4:(S.tz++[some (σ.len+1,S.az.length)]).length=S.tz.length+1:=Ll
 show aH (aw (d+11)) (.list [.loc 1]) _ (s3.new (.list aa [vi S.tz.length,vi (S.tz++[some (σ.len+1,S.az.length)]).length])) _
 refine kL (vs:=[vi lib]) (pS rfl) ?_
 refine yw (σ:=(s3.new (.list aa [vi S.tz.length,vi (S.tz++[some (σ.len+1,S.az.length)]).length])).new (.list aa [vi lib])) (n:=s3.len) (m:=(s3.new (.list aa [vi S.tz.length,vi (S.tz++[some (σ.len+1,S.az.length)]).length])).len) (t:=aa) (t':=aa) (l:=[vi S.tz.length,vi (S.tz++[some (σ.len+1,S.az.length)]).length]) (r:=[vi lib]) (bT be) be (show 3≤aN by decide) ?_
 rw [e4]
 have B3:c7 s3 (σ.len+12) (yC (σ.len+12) ["T"] (cU (σ.len+12) (S.tz.length+1) "B" (σ.len+12+5) (σ.len+12+6) S.az.length 0 0)):=by rw [←e4];exact B3
 have e24:((s3.new (.list aa [vi S.tz.length,vi (S.tz.length+1)])).new (.list aa [vi lib])).len=σ.len+24:=by rw [aD,aD,l3]
 rw [e24]
 refine ze (pS rfl) (n:=σ.len+25) (by rw [aD,e24]) ?_
 have r3:∀k,k<s2.len→(k<p∨p+14≤k)→s3.get k=s2.get k:=λ k a b=>(f3 k (by rw [←e2];exact JY a aQ) (cQ b (by decide)) (cQ b (by decide))).trans (aP a)
 have r2:∀k,k<σ.len→(k<p∨p+14≤k)→s2.get k=σ.get k:=λ k a b=>(f2 k (Kr a) (cQ b (by decide)) (cQ b (by decide))).trans ((aP (l1.symm▸a)).trans (g1 k b))
 have l12:σ.len<s2.len:=by rw [l2];exact Nat.lt_succ_of_le (JU σ.len 10)
 have h11:p+14≤σ.len+11:=JT hlen (JU _ 11)
 have gT1:s3.get σ.len=some (.list aa [.str "T"]):=(r3 _ l12 (.inr hlen)).trans ((f2 _ (Kc _) (cQ (.inr hlen) (by decide)) (cQ (.inr hlen) (by decide))).trans (gY l1.symm))
 have gT2:s3.get (σ.len+11)=some (.list aa [.str "T"]):=(f3 _ (Kc _) (cQ (.inr h11) (by decide)) (cQ (.inr h11) (by decide))).trans (gY l2.symm)
 have B2':=B2.fr (σ':=s3) λ k a b=>r3 k (by rw [l2];exact b) (.inr (JT hlen (JT (Kt _) a)))
 have BB:=((c7.one gT1).app B2').app ((c7.one gT2).app B3)
 have P:=(((BB.snoc (o:=.list aa [vi S.tz.length,vi (S.tz.length+1)]) l3).snoc (o:=.list aa [vi lib]) (by rw [aD,l3];rfl)).snoc (o:=.list aa [vi S.tz.length,vi (S.tz.length+1),vi lib]) (by rw [aD,aD,l3];rfl)).snoc (o:=.dict aa 2 []) (by rw [aD,aD,aD,l3];rfl)
 have fn:∀k,k<s3.len→((((s3.new (.list aa [vi S.tz.length,vi (S.tz.length+1)])).new (.list aa [vi lib])).new (.list aa [vi S.tz.length,vi (S.tz.length+1),vi lib])).new (.dict aa 2 [])).get k=s3.get k:=λ k a=>(aP (JY (JY (JY a aQ) aQ) aQ)).trans ((aP (JY (JY a aQ) aQ)).trans ((aP (JY a aQ)).trans (aP a)))
 have l26:((((s3.new (.list aa [vi S.tz.length,vi (S.tz.length+1)])).new (.list aa [vi lib])).new (.list aa [vi S.tz.length,vi (S.tz.length+1),vi lib])).new (.dict aa 2 [])).len=σ.len+26:=by rw [aD,aD,e24]
 have l13:s3.len=σ.len+22:=l3
 have l36:=JT (J3 l13) (JT (JW (show 22≤26 by decide) σ.len) (J3 l26.symm))
 refine k _ {S with az:=S.az++["app"],tz:=S.tz++[some (σ.len+1,S.az.length)]++[some (σ.len+12,S.az.length)]} ⟨C3.frame' l36 λ k yy b=>fn k b,P.g 24 rfl,P.g 25 rfl,⟨JT hl (Kb hl2),JT hl (KQ (Kb hl2)),hl,Kc _,hl2⟩,hlen,J3 l26.symm⟩
  ⟨J1 _,(Ku _ _).trans (Ku _ _),J1 _,J1 _,Ku _ _⟩ (J3 ((AS.szT (S:={S with az:=S.az++["app"],tz:=S.tz++[some (σ.len+1,S.az.length)]})).trans (congrArg (· +1) ((AS.szT (S:={S with az:=S.az++["app"]})).trans (congrArg (· +1) AS.szA))))) rfl rfl rfl l26 P
  λ k a b=>(fn k (by rw [l13];exact Ks 22 a)).trans ((r3 k (JY a l12) b).trans (r2 k a b))
noncomputable def fZ (σ:St) (p:Nat) (S:AS) (lib:Nat):Prop:=∃nL aL fr mr:Nat,S.tz[lib]? =some (some (nL,aL))∧S.az[aL]? =some "lib"∧σ.get nL=some (cU nL lib "L" fr mr aL 0 0)∧TT σ nL []∧p+14≤nL∧nL+10≤σ.len
theorem fZ.mono {σ σ':St} {p lib:Nat} {S S':AS} (h:fZ σ p S lib) (hS:S.le S') (hl:σ.len≤σ'.len) (hf:∀k,p+14≤k→k<σ.len→σ'.get k=σ.get k):fZ σ' p S' lib:=
 h.imp λ nL h=>h.imp λ aL h=>h.imp λ fr h=>h.imp λ mr h=>
  have a:=h.2.2.2.2
  ⟨ba hS.tz h.1,ba hS.az h.2.1,(hf _ a.1 (ac h.2.2.1)).trans h.2.2.1,h.2.2.2.1.frame hl λ k b c=>hf k (JT a.1 (Kx b)) (JS c h.2.2.2.1.len),a.1,JT a.2 hl⟩
noncomputable def Zr (S:AS):Prop:=S.tz[0]? =some none∧S.flds[0]? =some none∧S.mzz[0]? =some none
theorem Zr.mono {S S':AS} (h:Zr S) (hS:S.le S'):Zr S':=⟨ba hS.tz h.1,ba hS.flds h.2.1,ba hS.mzz h.2.2⟩
structure WS (σ:St) (p:Nat) (S:AS) (lib:Nat):Prop where
 C:SC σ p S
 l:fZ σ p S lib
 l1:64≤lib
 l2:lib<S.tz.length
 asm:∀i n a:Nat,S.tz[i]? =some (some (n,a))→a<S.az.length
 z:Zr S
structure eg (σ:St) (p x:Nat) (S:AS) (B:Nat) (o:bJ) (nl:List (V×V)) (fr0 fr1 mr0 mr1 hb cb:Nat) (cv iv pv ev:List V) (d:De):Prop where
 C:SC σ p S
 ok:o.Ok
 asm:S.az[x]? =some "app"
 tA:S.tz[o.a]? =some (some (B+1,x))
 tB:S.tz[o.b]? =some (some (B+12,x))
 only:∀i n:Nat,S.tz[i]? =some (some (n,x))→i=o.a∨i=o.b
 lib:fZ σ p S o.l
 oA:σ.get (B+1)=some (cU (B+1) o.a "A" fr0 mr0 x (hN nl d.k0) (hN nl d.k1))
 oB:σ.get (B+12)=some (cU (B+12) o.b "B" fr1 mr1 x 0 0)
 ttA:TT σ (B+1) ["T"]
 ttB:TT σ (B+12) ["T"]
 f0:σ.get fr0=some (.list aa (d.f0.map λ r=>vi (fN nl false r)))
 f1:σ.get fr1=some (.list aa (d.f1.map λ r=>vi (fN nl true r)))
 m0:σ.get mr0=some (.list aa (d.m0.map λ r=>vi (mN nl false r)))
 m1:σ.get mr1=some (.list aa (d.m1.map λ r=>vi (mN nl true r)))
 F:∀t,∀r∈d.f t,FF σ S o (B+26) t r (fN nl t r)
 M:∀t,∀r∈d.m t,MF σ S o (B+26) t r (mN nl t r) (if (⟨t,r⟩:cM)=d.held then .ref hb else .none)
 body:σ.get hb=some (rD cb)
 code:σ.get cb=some (.list aa (cv++[.tup [.int 42,.int 0]]))
 cls:σ.get (cb+1)=some (.list aa [])
 codeP:aS (Ai S.rows o nl) d.code cv
 impls:σ.get (B+8)=some (.list aa iv)
 implsP:aS (HD S.rows o nl d.m0 d.m1) (cZ d.impls) iv
 props:σ.get (B+9)=some (.list aa pv)
 propsP:aS (EP S.rows o nl d.m0 d.m1) (cZ d.props) pv
 events:σ.get (B+10)=some (.list aa ev)
 eventsP:aS (Ja S.rows o nl d.m0 d.m1) (cZ d.events) ev
 i1:σ.get (B+19)=some (.list aa [])
 p1:σ.get (B+20)=some (.list aa [])
 e1:σ.get (B+21)=some (.list aa [])
 b:p+14≤B
 bd:B+26≤σ.len∧(B≤fr0∧fr0<σ.len)∧(B≤fr1∧fr1<σ.len)∧(B≤mr0∧mr0<σ.len)∧(B≤mr1∧mr1<σ.len)∧(B≤hb∧hb<σ.len)∧(B≤cb∧cb+1<σ.len)
 z:Zr S
theorem eg.frameG {σ σ':St} {p x:Nat} {S S':AS} {B:Nat} {o:bJ} {nl:List (V×V)} {fr0 fr1 mr0 mr1 hb cb:Nat} {cv iv pv ev:List V} {d:De} (L:eg σ p x S B o nl fr0 fr1 mr0 mr1 hb cb cv iv pv ev d) (C:SC σ' p S') (lib:fZ σ' p S' o.l) (hS:S.le S') (hl:σ.len≤σ'.len) (hf:∀k,B≤k→k<σ.len→σ'.get k=σ.get k)
  (ho:∀i n:Nat,S'.tz[i]? =some (some (n,x))→S.tz[i]? =some (some (n,x))):eg σ' p x S' B o nl fr0 fr1 mr0 mr1 hb cb cv iv pv ev d:=by
 have hb:=L.b
 have bd:=L.bd
 have g:∀{k:Nat} {v:Mine.O},B≤k→σ.get k=some v→σ'.get k=some v:=λ h1 e=>(hf _ h1 (ac e)).trans e
 have gB:∀(i:Nat) {v:Mine.O},σ.get (B+i)=some v→σ'.get (B+i)=some v:=λ i yy e=>g (JU B i) e
 have h26:∀k,B+26≤k→k<σ.len→σ'.get k=σ.get k:=λ k a b=>hf k (JT (JU B 26) a) b
 have fT:∀{i},TT σ (B+i) ["T"]→TT σ' (B+i) ["T"]:=λ {i} T=>T.frame hl λ k a b=>hf k (JT (JU B i) (Kx a)) (JS b T.len)
 exact ⟨C,L.ok,ba hS.az L.asm,ba hS.tz L.tA,ba hS.tz L.tB,λ i n e=>L.only i n (ho i n e),lib,gB 1 L.oA,gB 12 L.oB,fT L.ttA,fT L.ttB,
  g bd.2.1.1 L.f0,g bd.2.2.1.1 L.f1,g bd.2.2.2.1.1 L.m0,g bd.2.2.2.2.1.1 L.m1,λ t r hr=>(L.F t r hr).mono hS hl h26,λ t r hr=>(L.M t r hr).mono hS hl h26,g bd.2.2.2.2.2.1.1 L.body,g bd.2.2.2.2.2.2.1 L.code,g (KQ bd.2.2.2.2.2.2.1) L.cls,L.codeP.mono λ yy yy q=>q.mono hS.rows,
  gB 8 L.impls,L.implsP.mono λ yy yy q=>q.mono hS.rows,gB 9 L.props,L.propsP.mono λ yy yy q=>q.mono hS.rows,gB 10 L.events,L.eventsP.mono λ yy yy q=>q.mono hS.rows,gB 19 L.i1,gB 20 L.p1,gB 21 L.e1,L.b,
  ⟨JT bd.1 hl,⟨bd.2.1.1,JS bd.2.1.2 hl⟩,⟨bd.2.2.1.1,JS bd.2.2.1.2 hl⟩,⟨bd.2.2.2.1.1,JS bd.2.2.2.1.2 hl⟩,⟨bd.2.2.2.2.1.1,JS bd.2.2.2.2.1.2 hl⟩,⟨bd.2.2.2.2.2.1.1,JS bd.2.2.2.2.2.1.2 hl⟩,bd.2.2.2.2.2.2.1,JS bd.2.2.2.2.2.2.2 hl⟩,L.z.mono hS⟩
theorem eg.frame {σ σ':St} {p x:Nat} {S S':AS} {B:Nat} {o:bJ} {nl:List (V×V)} {fr0 fr1 mr0 mr1 hb cb:Nat} {cv iv pv ev:List V} {d:De} (L:eg σ p x S B o nl fr0 fr1 mr0 mr1 hb cb cv iv pv ev d) (C:SC σ' p S') (hS:S.le S') (hl:σ.len≤σ'.len) (hf:∀k,p+14≤k→k<σ.len→σ'.get k=σ.get k)
  (ho:∀i n:Nat,S'.tz[i]? =some (some (n,x))→S.tz[i]? =some (some (n,x))):eg σ' p x S' B o nl fr0 fr1 mr0 mr1 hb cb cv iv pv ev d:=
 L.frameG C (L.lib.mono hS hl hf) hS hl (λ k a b=>hf k (JT L.b a) b) ho
theorem dN.inj {σ:St} {p:Nat} {rows:List aF} (T:eZ σ p rows) {o:bJ} (ok:o.Ok):∀{ps ps':List String} {ks:List Nat},(∀p∈ps,p∈bB)→(∀p∈ps',p∈bB)→dN rows o ps ks→dN rows o ps' ks→ps=ps'
 |[],[],_,_,_,_,_=>rfl
 |[],_::_,[],_,_,_,h=>h.elim
 |[],_::_,_::_,_,_,h,_=>h.elim
 |_::_,[],[],_,_,h,_=>h.elim
 |_::_,[],_::_,_,_,_,h=>h.elim
 |_::_,_::_,[],_,_,h,_=>h.elim
 |p::ps,q::qs,k::ks,hp,hq,h,h'=>by
  rw [ga p (hp p List.mem_cons_self) q (hq q List.mem_cons_self) (c4.inj T ok h.1 h'.1),dN.inj T ok (λ a ha=>hp a (List.mem_cons_of_mem _ ha)) (λ a ha=>hq a (List.mem_cons_of_mem _ ha)) h.2 h'.2]
theorem bJ.t_inj {o:bJ} (h:o.a≠o.b):∀{t t':Bool},o.t t=o.t t'→t=t'
 |false,false,_=>rfl
 |true,true,_=>rfl
 |false,true,e=>absurd e h
 |true,false,e=>absurd e.symm h
theorem MF.inj {σ:St} {p:Nat} {S:AS} (C:SC σ p S) {o:bJ} (OK:o.Ok) {lo:Nat} {t t':Bool} {m:Nat} {b b':V}:∀{r r':Mr} (_:r.ok) (_:r'.ok) (_:MF σ S o lo t r m b) (_:MF σ S o lo t' r' m b'),t=t'∧r=r'
 |⟨n,g,s,ret,ps⟩,⟨n',g',s',ret',ps'⟩,hr,hr',h,h'=>
  h.el λ n gn gb ret ks h1 h2 h3 h4 h5 h6 h7 h8 h9=>h'.el λ n' gn' gb' ret' ks' h1' yy yy yy h5' yy yy h8' h9'=>by
   have en:n=n':=J4 (J4 (h1.symm.trans h1'))
   rw [←en] at h5'
   have e:=J4 (h5.symm.trans h5')
   have et:=bJ.t_inj (J5 OK.ab) (aO (J4 (congrArg (pj · "owner") e)))
   have e1:=V.str.inj (J4 (congrArg (pj · "name") e))
   have e2:=aO (J4 (congrArg (pj · "flags") e))
   have e3:=aO (J4 (congrArg (pj · "ngen") e))
   have e4:=aO (J4 (congrArg (pj · "ret") e))
   have e5:=uf (λ yy yy h=>aO h) (V.tup.inj (J4 (congrArg (pj · "params") e)))
   rw [←e4] at h8'
   rw [←e5] at h9'
   have e6:=ga _ hr.2.2.2.1 _ hr'.2.2.2.1 (c4.inj C.kt OK h8 h8')
   have e7:=dN.inj C.kt OK hr.2.2.2.2.1 hr'.2.2.2.2.1 h9 h9'
   simp only at e1 e2 e3 e6 e7
   exact ⟨et,by rw [e1,e2,e3,e6,e7]⟩
theorem k6 {nl nl':List (V×V)} {k:V} (h:ae nl' k=ae nl k):bW nl' k=bW nl k:=by unfold bW;rw [h]
structure MK (σ:St) (p x:Nat) (S:AS) (B:Nat) (o:bJ) (nl:List (V×V)) (fr0 fr1 mr0 mr1:Nat) (cc fi:Nat) (bd:cM→V) (d:De):Prop where
 L:LS σ p B S o nl
 tA:S.tz[o.a]? =some (some (B+1,x))
 oA:σ.get (B+1)=some (cU (B+1) o.a "A" fr0 mr0 x cc fi)
 oB:σ.get (B+12)=some (cU (B+12) o.b "B" fr1 mr1 x 0 0)
 ttA:TT σ (B+1) ["T"]
 ttB:TT σ (B+12) ["T"]
 f0:σ.get fr0=some (.list aa (d.f0.map λ r=>vi (fN nl false r)))
 f1:σ.get fr1=some (.list aa (d.f1.map λ r=>vi (fN nl true r)))
 m0:σ.get mr0=some (.list aa (d.m0.map λ r=>vi (mN nl false r)))
 m1:σ.get mr1=some (.list aa (d.m1.map λ r=>vi (mN nl true r)))
 F:∀t,∀r∈d.f t,ae nl (kF t r)=some (vi (fN nl t r))∧FF σ S o (B+26) t r (fN nl t r)
 M:∀t,∀r∈d.m t,ae nl (kM t r)=some (vi (mN nl t r))∧MF σ S o (B+26) t r (mN nl t r) (bd ⟨t,r⟩)
 i1:σ.get (B+19)=some (.list aa [])
 p1:σ.get (B+20)=some (.list aa [])
 e1:σ.get (B+21)=some (.list aa [])
 bds:(B+26≤fr0∧fr0<σ.len)∧(B+26≤fr1∧fr1<σ.len)∧(B+26≤mr0∧mr0<σ.len)∧(B+26≤mr1∧mr1<σ.len)
theorem MK.frame {σ σ':St} {p x:Nat} {S:AS} {B:Nat} {o:bJ} {nl:List (V×V)} {fr0 fr1 mr0 mr1:Nat} {cc fi:Nat} {bd:cM→V} {d:De} (M:MK σ p x S B o nl fr0 fr1 mr0 mr1 cc fi bd d) {rows:List aF} (L:LS σ' p B {S with rows:=rows} o nl) (hr:S.rows<+:rows) (hl:σ.len≤σ'.len)
  (hf:∀k,k<σ.len→B+11≤k→σ'.get k=σ.get k) (hf2:∀k,B+1≤k→k<B+8→σ'.get k=σ.get k):MK σ' p x {S with rows:=rows} B o nl fr0 fr1 mr0 mr1 cc fi bd d:=by
 have bd':=M.bds
 have hlen:=M.L.len
 have hS:S.le {S with rows:=rows}:=⟨hr,J1 _,J1 _,J1 _,J1 _⟩
 have g:∀{k:Nat} {v:Mine.O},B+11≤k→σ.get k=some v→σ'.get k=some v:=λ h1 e=>(hf _ (ac e) h1).trans e
 have gB:∀(i:Nat) {v:Mine.O},11≤i→σ.get (B+i)=some v→σ'.get (B+i)=some v:=λ i yy h e=>g (JW h B) e
 have up:∀{k:Nat},B+26≤k→B+11≤k:=λ h=>JT (JW (by decide) B) h
 have h26:∀k,B+26≤k→k<σ.len→σ'.get k=σ.get k:=λ k a b=>hf k b (up a)
 exact ⟨L,M.tA,(hf2 _ (Kd _) (J0 (by decide) B)).trans M.oA,gB 12 (by decide) M.oB,M.ttA.frame hl λ k a b=>hf2 k (Kx a) (JY b (J0 (show 6<8 by decide) B)),M.ttB.frame hl λ k a b=>hf k (JS b M.ttB.len) (JT (JW (show 11≤13 by decide) B) a),g (up bd'.1.1) M.f0,g (up bd'.2.1.1) M.f1,g (up bd'.2.2.1.1) M.m0,g (up bd'.2.2.2.1) M.m1,
  λ t r h=>⟨(M.F t r h).1,(M.F t r h).2.mono hS hl h26⟩,λ t r h=>⟨(M.M t r h).1,(M.M t r h).2.mono hS hl h26⟩,gB 19 (by decide) M.i1,gB 20 (by decide) M.p1,gB 21 (by decide) M.e1,
  ⟨⟨bd'.1.1,JS bd'.1.2 hl⟩,⟨bd'.2.1.1,JS bd'.2.1.2 hl⟩,⟨bd'.2.2.1.1,JS bd'.2.2.1.2 hl⟩,⟨bd'.2.2.2.1,JS bd'.2.2.2.2 hl⟩⟩⟩
theorem GO {d p x lib turn lo hi B:Nat} {R:Rf} {de:De} {S:AS} {o:bJ} {σ:St} {L:Option V→ax→St→Prop} {ys:List Y} {xs:List (Option V)} (Ls:LS σ p B S o []) (D:cg σ R lo hi de) (hhi:hi≤B) (hdis:hi≤p∨p+14≤lo) (ok:de.ok) (hs:S.size<35000)
  (tA:S.tz[o.a]? =some (some (B+1,x))) (tB:S.tz[o.b]? =some (some (B+12,x))) (P:c7 σ B (GQ B o.a o.b o.l x))
  (k:∀σ' S' nl fr0 fr1 mr0 mr1,MK σ' p x S' B o nl fr0 fr1 mr0 mr1 0 0 (λ yy=>.none) de→S.le S'→S'.size≤S.size+112→S'.tz=S.tz→S'.az=S.az→σ'.get (B+1+7)=some (.list aa [])→σ'.get (B+1+8)=some (.list aa [])→σ'.get (B+1+9)=some (.list aa [])→σ.len≤σ'.len→(∀k,k<B→(k<p∨p+14≤k)→σ'.get k=σ.get k)→
   ah (aw (d+11)) ys (some (.ref p)::some (.int lib)::some (.ref R.q)::some (.int turn)::some (.ref (p+1))::some (.int x)::some (.ref (B+24))::some (.ref (B+25))::xs) σ' L):
  ah (aw (d+11)) (.ex (.call "_law_make" [.loc 0,.loc 6,.loc 2,.int 1,.bin .fdiv (.loc 3) (.int 8),.loc 7])::.ex (.call "_law_make" [.loc 0,.loc 6,.loc 2,.int 0,.loc 3,.loc 7])::ys) (some (.ref p)::some (.int lib)::some (.ref R.q)::some (.int turn)::some (.ref (p+1))::some (.int x)::some (.ref (B+24))::some (.ref (B+25))::xs) σ L:=by
 have hB:=Ls.b
 have oB:∀i,p+14≤B+i:=λ i=>JT hB (JU B i)
 have nb:∀{k} (h:k<B) (j:Nat),k≠B+j:=λ h j=>J5 (JS h (JU B j))
 have na:∀{k} (h:B+26≤k) (j:Nat) (_:j<26),k≠B+j:=λ h j a=>J8 (JS (J0 a B) h)
 have hd:∀{k},lo≤k→k<hi→k<p∨p+14≤k:=λ a b=>hdis.imp (JS b) λ h=>JT h a
 apply yG (vs:=[.ref p,.ref (B+24),.ref R.q,.int 1,.int (turn / 8:Nat),.ref (B+25)]) (by dsimp! [And.intro (show (0:Int)<8 by decide),And.intro (show (8:Int)<1000000000 by decide)])
 refine ym (t:=true) Ls D hhi hdis ok.f1 ok.m1 tB (P.g 12 rfl) (.inr rfl) (P.g 17 rfl) (P.g 18 rfl) (JY hs (by decide)) (show 0<900 by decide) λ s1 S1 n1 fr1 mr1 L1 le1 sz1 nl1 ty1 as1 F1 M1 k1 o1 b1 b1' g1 g1' ln1 r1=>?_
 have r1':∀(i:Nat) {v:Mine.O},Nat.beq i 25=false→Nat.beq i 12=false→Nat.beq i 17=false→Nat.beq i 18=false→σ.get (B+i)=some v→s1.get (B+i)=some v:=λ i yy a b c e g=>(r1 _ (ac g) (.inr (oB i)) (nf a) (nf b) (nf c) (nf e)).trans g
 have rl1:∀k,k<B→(k<p∨p+14≤k)→s1.get k=σ.get k:=λ k a b=>r1 k (JS a (JT (JU B 26) Ls.len)) b (nb a 25) (nb a 12) (nb a 17) (nb a 18)
 have D1:cg s1 R lo hi de:=D.frame ln1 λ k a b=>rl1 k (JS b hhi) (hd a b)
 have hs1:S1.size<40000:=JV sz1 (JY (Kv hs 56) (by decide))
 apply yG (pS rfl)
 refine ym (t:=false) L1 D1 hhi hdis ok.f0 ok.m0 ((congrArg (λ l=>l[o.a]?) ty1).trans tA) (r1' 1 rfl rfl rfl rfl (P.g 1 rfl)) (.inl rfl) (r1' 6 rfl rfl rfl rfl (P.g 6 rfl)) (r1' 7 rfl rfl rfl rfl (P.g 7 rfl)) hs1 (JV nl1 (show 0+8<900 by decide)) λ s2 S2 n2 fr0 mr0 L2 le2 sz2 nl2 ty2 as2 F2 M2 k2 o2 b2 b2' g2 g2' ln2 r2=>?_
 have r2':∀(i:Nat) {v:Mine.O},Nat.beq i 25=false→Nat.beq i 1=false→Nat.beq i 6=false→Nat.beq i 7=false→s1.get (B+i)=some v→s2.get (B+i)=some v:=λ i yy a b c e g=>(r2 _ (ac g) (.inr (oB i)) (nf a) (nf b) (nf c) (nf e)).trans g
 have r26:∀k,B+26≤k→k<s1.len→s2.get k=s1.get k:=λ k a b=>r2 k b (.inr (JT (oB 26) a)) (na a 25 (by decide)) (na a 1 (by decide)) (na a 6 (by decide)) (na a 7 (by decide))
 have R2:∀k,k<B→(k<p∨p+14≤k)→s2.get k=σ.get k:=λ k a b=>(r2 k (JS a (JT (JU B 26) L1.len)) b (nb a 25) (nb a 1) (nb a 6) (nb a 7)).trans (rl1 k a b)
 have ft:∀{P:Prop},true=false→P:=λ h=>absurd h (by decide)
 have kf:∀r,ae n2 (kF true r)=ae n1 (kF true r):=λ r=>k2 _ (λ r' e=>ft (Ct e).1) λ r'=>kS
 have km:∀r,ae n2 (kM true r)=ae n1 (kM true r):=λ r=>k2 _ (λ r' e=>kS e.symm) λ r' e=>ft (Cs e).1
 have hff:∀r,bW n1 (kF true r)=fN n2 true r:=λ r=>(k6 (kf r)).symm
 have hmm:∀r,bW n1 (kM true r)=mN n2 true r:=λ r=>(k6 (km r)).symm
 rw [show (λ r=>vi (bW n1 (kF true r)))=λ r=>vi (fN n2 true r) from funext λ r=>congrArg vi (hff r)] at g1
 rw [show (λ r=>vi (bW n1 (kM true r)))=λ r=>vi (mN n2 true r) from funext λ r=>congrArg vi (hmm r)] at g1'
 have hl:=JT ln1 ln2
 refine k s2 S2 n2 fr0 fr1 mr0 mr1 ⟨L2,(congrArg (λ l=>l[o.a]?) (ty2.trans ty1)).trans tA,o2,r2' 12 rfl rfl rfl rfl o1,
   ⟨r2' 2 rfl rfl rfl rfl (r1' 2 rfl rfl rfl rfl (P.g 2 rfl)),r2' 3 rfl rfl rfl rfl (r1' 3 rfl rfl rfl rfl (P.g 3 rfl)),r2' 4 rfl rfl rfl rfl (r1' 4 rfl rfl rfl rfl (P.g 4 rfl)),r2' 5 rfl rfl rfl rfl (r1' 5 rfl rfl rfl rfl (P.g 5 rfl)),JT (JW (show 6≤26 by decide) B) L2.len⟩,
   ⟨r2' 13 rfl rfl rfl rfl (r1' 13 rfl rfl rfl rfl (P.g 13 rfl)),r2' 14 rfl rfl rfl rfl (r1' 14 rfl rfl rfl rfl (P.g 14 rfl)),r2' 15 rfl rfl rfl rfl (r1' 15 rfl rfl rfl rfl (P.g 15 rfl)),r2' 16 rfl rfl rfl rfl (r1' 16 rfl rfl rfl rfl (P.g 16 rfl)),JT (JW (show 17≤26 by decide) B) L2.len⟩,
   g2,(r26 _ b1.1 b1.2).trans g1,g2',(r26 _ b1'.1 b1'.2).trans g1',?_,?_,r2' 19 rfl rfl rfl rfl (r1' 19 rfl rfl rfl rfl (P.g 19 rfl)),r2' 20 rfl rfl rfl rfl (r1' 20 rfl rfl rfl rfl (P.g 20 rfl)),r2' 21 rfl rfl rfl rfl (r1' 21 rfl rfl rfl rfl (P.g 21 rfl)),⟨b2,⟨b1.1,JS b1.2 ln2⟩,b2',⟨b1'.1,JS b1'.2 ln2⟩⟩⟩
  (le1.trans le2) (JT sz2 (Ki sz1 56)) (ty2.trans ty1) (as2.trans as1) (r2' 8 rfl rfl rfl rfl (r1' 8 rfl rfl rfl rfl (P.g 8 rfl))) (r2' 9 rfl rfl rfl rfl (r1' 9 rfl rfl rfl rfl (P.g 9 rfl))) (r2' 10 rfl rfl rfl rfl (r1' 10 rfl rfl rfl rfl (P.g 10 rfl))) hl R2
 ·intro t r hr
  cases t with
  |false=>exact F2 r hr
  |true=>
   have h:=F1 r hr
   rw [hff r] at h
   exact ⟨(kf r).trans h.1,h.2.mono le2 ln2 r26⟩
 ·intro t r hr
  cases t with
  |false=>exact M2 r hr
  |true=>
   have h:=M1 r hr
   rw [hmm r] at h
   exact ⟨(km r).trans h.1,h.2.mono le2 ln2 r26⟩
noncomputable def JQ:Mine.O→Nat
 | .list _ _=>0
 | .dict _ _ _=>1
 | .inst _ c _=>if c="MethodDef" then 2 else 3
noncomputable def H4 (b:V) (o:Mine.O):Mine.O:=(yu o "body" b).getD o
theorem De.ok.mr {d:De} (ok:d.ok):∀t,∀r∈d.m t,r.ok
 |false=>ok.m0.2.2.2
 |true=>ok.m1.2.2.2
theorem MK.ni {σ:St} {p x:Nat} {S:AS} {B:Nat} {o:bJ} {nl:List (V×V)} {fr0 fr1 mr0 mr1 cc fi:Nat} {bd:cM→V} {d:De} (M:MK σ p x S B o nl fr0 fr1 mr0 mr1 cc fi bd d) (ok:d.ok):NI d nl:=
 ⟨λ t r h=>(M.M t r h).1,λ t r t' r' h h' e=>MF.inj M.L.C M.L.ok (ok.mr t r h) (ok.mr t' r' h') (M.M t r h).2 (e▸(M.M t' r' h').2)⟩
theorem MK.body {σ σ':St} {p x:Nat} {S:AS} {B:Nat} {o:bJ} {nl:List (V×V)} {fr0 fr1 mr0 mr1:Nat} {cc fi hb n fl ng gn gb ret tid:Nat} {nm:String} {ks:List Nat} {d:De} (M:MK σ p x S B o nl fr0 fr1 mr0 mr1 cc fi (λ yy=>.none) d) (ok:d.ok)
  (hm:S.mzz[hN nl d.held]? =some (some n)) (hn:σ.get n=some (oj (hN nl d.held) tid nm fl ng gn gb ret ks .none)) (hnB:B+26≤n) (g:σ'.get n=some (oj (hN nl d.held) tid nm fl ng gn gb ret ks (.ref hb))) (hl:σ.len≤σ'.len) (hf:∀k,k<σ.len→k≠n→σ'.get k=σ.get k):
  MK σ' p x S B o nl fr0 fr1 mr0 mr1 cc fi (λ y=>if y=d.held then .ref hb else .none) d:=by
 have g':∀{k:Nat} {v:Mine.O},Nat.beq (JQ v) 2=false→σ.get k=some v→σ'.get k=some v:=λ {k v} h e=>(hf k (ac e) λ he=>by
  have e':=J4 (e.symm.trans (he▸hn))
  rw [e'] at h
  exact absurd h (show ¬true=false by decide)).trans e
 have hlt:∀{k},k<B+26→σ'.get k=σ.get k:=λ h=>hf _ (JS h M.L.len) (J5 (JS h hnB))
 have fT:∀{i},i≤12→TT σ (B+i) ["T"]→TT σ' (B+i) ["T"]:=λ {i} hi T=>T.frame hl λ k a b=>hlt (JS b (JT (Ki (JW hi B) 5) (JW (show 17≤26 by decide) B)))
 have C:SC σ' p S:=M.L.C.frame hl (λ k a b=>hlt (JS b (JT M.L.b (JU B 26)))) λ i n' a e=>(M.L.C.ti i n' a e).2.2.imp λ as x=>⟨g' rfl x.1,x.2⟩
 have bd:=M.bds
 refine ⟨M.L.ext C hl λ k yy b=>hlt b,M.tA,g' rfl M.oA,g' rfl M.oB,fT (i:=1) (by decide) M.ttA,fT (i:=12) (by decide) M.ttB,g' rfl M.f0,g' rfl M.f1,g' rfl M.m0,g' rfl M.m1,λ t r hr=>⟨(M.F t r hr).1,?_⟩,λ t r hr=>⟨(M.M t r hr).1,?_⟩,g' rfl M.i1,g' rfl M.p1,g' rfl M.e1,
  ⟨⟨bd.1.1,JS bd.1.2 hl⟩,⟨bd.2.1.1,JS bd.2.1.2 hl⟩,⟨bd.2.2.1.1,JS bd.2.2.1.2 hl⟩,⟨bd.2.2.2.1,JS bd.2.2.2.2 hl⟩⟩⟩
 ·exact (M.F t r hr).2.imp λ n' h=>h.imp λ k h=>⟨h.1,h.2.1,JS h.2.2.1 hl,g' rfl h.2.2.2.1,h.2.2.2.2⟩
 ·have hM:=(M.M t r hr).2
  refine hM.el λ n' gn' gb' ret' ks' h1 h2 h3 h4 h5 h6 h7 h8 h9=>?_
  have w:∀{a},B+26≤a∧a<σ.len→B+26≤a∧a<σ'.len:=λ h=>⟨h.1,JS h.2 hl⟩
  by_cases he:(⟨t,r⟩:cM)=d.held
  ·have em:mN nl t r=hN nl d.held:=congrArg (hN nl) he
   have en:n=n':=J4 (J4 (hm.symm.trans (em▸h1)))
   subst en
   have e:=J4 (hn.symm.trans h5)
   exact ⟨n,gn',gb',ret',ks',h1,w h2,w h3,w h4,by rw [if_pos he];exact g.trans (congrArg (λ o=>some (H4 (.ref hb) o)) e),g' rfl h6,g' rfl h7,h8,h9⟩
  ·have hne:n'≠n:=λ e=>by
    rw [e,hn] at h5
    have em:hN nl d.held=mN nl t r:=aO (J4 (congrArg (pj · "mid") (J4 h5)))
    have z:=(M.ni ok).i _ _ _ _ hr ok.h em.symm
    exact he (show (⟨t,r⟩:cM)=⟨d.held.t,d.held.r⟩ by rw [z.1,z.2])
   exact ⟨n',gn',gb',ret',ks',h1,w h2,w h3,w h4,by rw [if_neg he];exact (hf _ h2.2 hne).trans h5,g' rfl h6,g' rfl h7,h8,h9⟩
theorem IK {C:ak} {ρ:ax} {σ:St} {x:X} {xs ys:List X} {n:Nat} {vs l:List V} {t:Tg} {Q:List V→St→Prop} (hx:∀Q,Q (.ref n) σ→aH C x ρ σ Q) (hy:∀Q,Q vs σ→aI C ys ρ σ Q) (g:σ.get n=some (.list t l)) (h:l.length+vs.length≤aN)
  (q:aI C xs ρ ((σ.new (.list aa vs)).new (.list aa (l++vs))) λ ws σ'=>Q (.ref (σ.new (.list aa vs)).len::ws) σ'):aI C (.bin .add x (.list ys)::xs) ρ σ Q:=hx _ (kL hy (yw (bT g) be h q))
theorem AV {d p lib turn lo hi:Nat} {R:Rf} {de:De} {S:AS} {σ:St} {Q:V→St→Prop} (Wd:WS σ p S lib) (D:cg σ R lo hi de) (hdis:hi≤p∨p+14≤lo) (ok:de.ok) (hs:S.size<20000)
  (k:∀σ' S' o nl fr0 fr1 mr0 mr1 hb cb cv iv pv ev,eg σ' p S.az.length S' σ.len o nl fr0 fr1 mr0 mr1 hb cb cv iv pv ev de→o.l=lib→WS σ' p S' lib→S.le S'→S'.size≤S.size+200→S'.az.length=S.az.length+1→σ.len≤σ'.len→(∀k,k<σ.len→(k<p∨p+14≤k)→σ'.get k=σ.get k)→(∀i n a:Nat,S'.tz[i]? =some (some (n,a))→a≠S.az.length→S.tz[i]? =some (some (n,a)))→Q (.int S.az.length) σ'):
  aw (d+12) (.g "_law_lay") [.ref p,.int lib,.ref R.q,.int turn] σ Q:=by
 have hhi:=D.len
 have hpl:=Wd.C.len
 refine go vF rfl ?_
 refine GP Wd.C (JY hs (by decide)) Wd.l1 Wd.l2 λ s0 S0 L0 le0 sz0 ty0 as0 ro0 ln0 P0 fr0=>?_
 have hd:∀{k},lo≤k→k<hi→k<p∨p+14≤k:=λ a b=>hdis.imp (JS b) λ h=>JT h a
 have hkt:∀{k},lo≤k→k<hi→k<p+2∨p+7≤k:=λ a b=>bP (hd a b)
 have D0:cg s0 R lo hi de:=D.frame (by rw [ln0];exact JU _ 26) λ k a b=>fr0 k (JS b hhi) (hd a b)
 have tyA:S0.tz[S.tz.length]? =some (some (σ.len+1,S.az.length)):=by
  rw [ty0,List.getElem?_append_left (by rw [List.length_append];exact Kc _)];exact Kg
 have tyB:S0.tz[S.tz.length+1]? =some (some (σ.len+12,S.az.length)):=by
  have e:S.tz.length+1=(S.tz++[some (σ.len+1,S.az.length)]).length:=by rw [List.length_append];rfl
  rw [ty0,e];exact Kg
 have hs0:S0.size<20003:=JV sz0 (Kv hs 3)
 generalize hB:σ.len=B at*
 refine GO L0 D0 hhi hdis ok (JY hs0 (by decide)) tyA tyB P0 λ s1 S1 nl f0 f1 m0 m1 M1 le1 sz1 ty1 as1 z8 z9 z10 ln1 r1=>?_
 have N:=M1.ni ok
 have D1:cg s1 R lo hi de:=D0.frame ln1 λ k a b=>r1 k (JS b hhi) (hd a b)
 have hs1:S1.size<20115:=JV sz1 (Kv hs0 112)
 refine setN (v:=.ref s1.len) (zB rfl) ?_
 have M2:=M1.frame (rows:=S1.rows) (M1.L.new (x:=.list aa [])) (J1 _) (Kb aQ) (λ k a b=>aP a) λ k a b=>aP (JS b (JT (JW (show 8≤26 by decide) B) M1.L.len))
 have D2:cg (s1.new (.list aa [])) R lo hi de:=D1.frame (Kb aQ) λ k a b=>aP (JS b D1.len)
 have okg:∀t,∀r∈de.m t,r.g≤1:=λ t r h=>(ok.mr t r h).2.1
 refine xn M2.L D2 hhi hdis ok.c ok.cl.2 be M1.L.len (λ t r h=>(M1.F t r h).1) (λ t r h=>(M1.M t r h).1) okg (JY hs1 (by decide)) λ s3 rows3 cv x9 x10 x11 x12 x13 L3 pr3 sz3 g3 cP3 ln3 r3=>?_
 have ln13:s1.len≤s3.len:=JT (Kb aQ) ln3
 have r13:∀k,k<s1.len→(k<p+2∨p+7≤k)→s3.get k=s1.get k:=λ k a b=>(r3 k (JY a aQ) b (J5 a)).trans (aP a)
 have pB:∀{k},B≤k→k<p+2∨p+7≤k:=λ h=>.inr (JT (JW (show 7≤14 by decide) p) (JT M1.L.b h))
 have b8:∀{k},k<B+8→k<s1.len:=λ h=>JS h (JT (JW (show 8≤26 by decide) B) M1.L.len)
 have M3:=M1.frame (rows:=rows3) L3 pr3 ln13 (λ k a b=>r13 k a (pB (JT (JU B 11) b))) λ k a b=>r13 k (b8 b) (pB (Kx a))
 have D3:cg s3 R lo hi de:=D1.frame ln13 λ k a b=>r13 k (JS b D1.len) (hkt a b)
 have hcl:cv.length≤4:=by rw [←cP3.1];exact ok.cl.2
 refine D3.ex.elim λ al h=>?_
 apply fg
 apply cy
 apply aE (pX rfl)
 apply aE (by dsimp! [dP h.1 h.2.2.2.2.2.2.2.2.1,And.intro (show 3≤aN by decide),jU L3.num eX (N.look ok.h)])
 apply aE (pX rfl)
 apply aE (pX rfl)
 refine IK (n:=s1.len) (vs:=[.tup [.int 42,.int 0]]) (pX rfl) (pS rfl) g3 (JT (Ki hcl 1) (show 5≤aN by decide)) ?_
 apply oF rfl
 refine (M3.M de.held.t de.held.r ok.h).2.el λ hn hgn hgb hret hks h1 h2 h3 h4 h5 h6 h7 h8 h9=>?_
 have fw:∀k,k<s3.len→(((s3.new (.list aa [.tup [.int 42,.int 0]])).new (.list aa (cv++[.tup [.int 42,.int 0]]))).new (.list aa [])).get k=s3.get k:=λ k a=>(aP (JY (JY a aQ) aQ)).trans ((aP (JY a aQ)).trans (aP a))
 have lw:s3.len≤(((s3.new (.list aa [.tup [.int 42,.int 0]])).new (.list aa (cv++[.tup [.int 42,.int 0]]))).new (.list aa [])).len:=Kb (JY (JY aQ aQ) aQ)
 have b83:∀{k},k<B+8→k<s3.len:=λ h=>JS (b8 h) ln13
 have M4:=M3.frame (rows:=rows3) ((L3.new (x:=.list aa [.tup [.int 42,.int 0]])).new (x:=.list aa (cv++[.tup [.int 42,.int 0]]))).new (J1 _) lw (λ k a yy=>fw k a) λ k yy b=>fw k (b83 b)
 refine tf (d:=d+9) (cv:=cv++[.tup [.int 42,.int 0]]) M4.L.C h1 ((fw _ h2.2).trans h5) (bT be) (by rw [List.length_append];exact JV (Ki hcl 1) (by decide)) be λ s5 ln5 g5 g5b g5c g5d r5=>?_
 have cz:(s3.new (.list aa [.tup [.int 42,.int 0]])).len=s3.len+1:=aD
 generalize ((s3.new (.list aa [.tup [.int 42,.int 0]])).new (.list aa (cv++[.tup [.int 42,.int 0]]))).new (.list aa [])=sw at fw lw M4 ln5 g5 g5b g5c g5d r5
 have l5w:sw.len+2<s5.len:=by rw [ln5];exact Kc _
 have lw5:sw.len≤s5.len:=JT (JU _ 2) (Kb l5w)
 have M5:=M4.body ok h1 ((fw _ h2.2).trans h5) h2.1 g5 lw5 r5
 have r5':∀k,k<B+26→s5.get k=s3.get k:=λ k a=>(r5 k (JS a M4.L.len) (J5 (JS a h2.1))).trans (fw k (JS a L3.len))
 have hB26:hi≤B+26:=JT hhi (JU B 26)
 have D5:cg s5 R lo hi de:=D3.frame (JT lw lw5) λ k a b=>r5' k (JS b hB26)
 have up:∀(i:Nat) {v:Mine.O},i<26→s1.get (B+i)=some v→s5.get (B+i)=some v:=λ i yy a e=>(r5' _ (J0 a B)).trans ((r13 _ (ac e) (pB (JU B i))).trans e)
 have sz3':rows3.length≤S1.rows.length+8:=sz3
 have hs3:AS.size {S1 with rows:=rows3}<20123:=AS.szL hs1 sz3 (Kd _)
 refine vb M5.L D5 hhi hdis N M5.tA M5.oA (JY hs3 (by decide)) ok.i (JT ok.il.2 (by decide)) (up 8 (by decide) z8) λ s6 rows6 iv x9 x10 x11 x12 x13 x14 x15 x16 x17 x18 x19 L6 pr6 sz6 g6 P6 ln6 r6=>?_
 have hiB:∀{k} (_:lo≤k) (_:k<hi) (j:Nat),k≠B+j:=λ yy b j=>J5 (JS (JS b hhi) (JU B j))
 have gt11:∀{k} (_:B+11≤k) (j:Nat) (_:j<11),k≠B+j:=λ a j c=>J8 (JS (J0 c B) a)
 have lt8:∀{k} (_:k<B+8) (j:Nat) (_:8≤j),k≠B+j:=λ a j c=>J5 (JS a (JW c B))
 have l26:∀{s:St} {k} (_:B+26≤s.len) (_:k<B+8),k<s.len:=λ h a=>JS a (JT (JW (show 8≤26 by decide) B) h)
 have pB11:∀{k},B+11≤k→k<p+2∨p+7≤k:=λ h=>pB (JT (JU B 11) h)
 have M6:=M5.frame L6 pr6 ln6 (λ k a b=>r6 k a (pB11 b) (gt11 b 8 (by decide))) λ k a b=>r6 k (l26 M5.L.len b) (pB (Kx a)) (lt8 b 8 (by decide))
 have D6:cg s6 R lo hi de:=D5.frame ln6 λ k a b=>r6 k (JS b D5.len) (hkt a b) (hiB a b 8)
 have sz6':rows6.length≤rows3.length+8:=sz6
 have hs6:AS.size {S1 with rows:=rows6}<20131:=AS.szL (S:={S1 with rows:=rows3}) hs3 sz6 (Kd _)
 have up6:∀(i:Nat) {v:Mine.O},Nat.beq i 8=false→s5.get (B+i)=some v→s6.get (B+i)=some v:=λ i yy a e=>(r6 _ (ac e) (pB (JU B i)) (nf a)).trans e
 refine u9 M6.L D6 hhi hdis N M6.tA M6.oA (JY hs6 (by decide)) ok.p (JT (J3 ok.pl) (by decide)) (up6 9 rfl (up 9 (by decide) z9)) λ s7 rows7 pv x9 x10 x11 x12 x13 x14 x15 x16 x17 x18 x19 L7 pr7 sz7 g7 P7 ln7 r7=>?_
 have M7:=M6.frame L7 pr7 ln7 (λ k a b=>r7 k a (pB11 b) (gt11 b 9 (by decide))) λ k a b=>r7 k (l26 M6.L.len b) (pB (Kx a)) (lt8 b 9 (by decide))
 have D7:cg s7 R lo hi de:=D6.frame ln7 λ k a b=>r7 k (JS b D6.len) (hkt a b) (hiB a b 9)
 have sz7':rows7.length≤rows6.length+8:=sz7
 have hs7:AS.size {S1 with rows:=rows7}<20139:=AS.szL (S:={S1 with rows:=rows6}) hs6 sz7 (Kd _)
 have up7:∀(i:Nat) {v:Mine.O},Nat.beq i 9=false→s6.get (B+i)=some v→s7.get (B+i)=some v:=λ i yy a e=>(r7 _ (ac e) (pB (JU B i)) (nf a)).trans e
 refine sN M7.L D7 hhi hdis N M7.tA M7.oA (JY hs7 (by decide)) ok.e (JT (J3 ok.el) (by decide)) (up7 10 rfl (up6 10 rfl (up 10 (by decide) z10))) λ s8 rows8 ev x9 x10 x11 x12 x13 x14 x15 x16 x17 x18 x19 L8 pr8 sz8 g8 P8 ln8 r8=>?_
 have M8:=M7.frame L8 pr8 ln8 (λ k a b=>r8 k a (pB11 b) (gt11 b 10 (by decide))) λ k a b=>r8 k (l26 M7.L.len b) (pB (Kx a)) (lt8 b 10 (by decide))
 have D8:cg s8 R lo hi de:=D7.frame ln8 λ k a b=>r8 k (JS b D7.len) (hkt a b) (hiB a b 10)
 refine D8.ex.elim λ al8 h=>?_
 have oA8:=M8.oA
 have hA:=ac oA8
 have hAB:p+14≤B+1:=JT M1.L.b (Kt B)
 have hA24:B+1<B+24:=J0 (by decide) B
 apply so (σ':=s8) (r:=B+1) (by dsimp! [dP h.1 h.2.2.2.2.2.2.2.2.2,bO D8.k rfl,And.intro (show 3≤aN by decide),jU L8.num eX (N.look ok.k0)]) (by dsimp! [L8.C.inst,bO L8.own rfl,bp L8.C.tz M8.tA]) oA8 (o':=cU (B+1) S.tz.length "A" f0 m0 S.az.length (hN nl de.k0) 0) rfl
 have L9:=L8.td oA8 hAB hA24 f0 m0 (hN nl de.k0) 0
 have D9:cg (s8.put (B+1) (cU (B+1) S.tz.length "A" f0 m0 S.az.length (hN nl de.k0) 0)) R lo hi de:=D8.frame (J3 aj.symm) λ k a b=>aR (hiB a b 1)
 refine D9.ex.elim λ al9 h=>?_
 have oA9:=aX (o:=cU (B+1) S.tz.length "A" f0 m0 S.az.length (hN nl de.k0) 0) hA
 apply so (r:=B+1) (by dsimp! [dP h.1 h.2.2.2.2.2.2.2.2.2,bO D9.k rfl,And.intro (show 3≤aN by decide),jU L9.num eX (N.look ok.k1)]) (by dsimp! [L9.C.inst,bO L9.own rfl,bp L9.C.tz M8.tA]) oA9 (o':=cU (B+1) S.tz.length "A" f0 m0 S.az.length (hN nl de.k0) (hN nl de.k1)) rfl
 apply bj (pX rfl)
 have L10:=L9.td oA9 hAB hA24 f0 m0 (hN nl de.k0) (hN nl de.k1)
 have oA10:((s8.put (B+1) (cU (B+1) S.tz.length "A" f0 m0 S.az.length (hN nl de.k0) 0)).put (B+1) (cU (B+1) S.tz.length "A" f0 m0 S.az.length (hN nl de.k0) (hN nl de.k1))).get (B+1)=some (cU (B+1) S.tz.length "A" f0 m0 S.az.length (hN nl de.k0) (hN nl de.k1)):=aX (px hA)
 have r10:∀k,k≠B+1→((s8.put (B+1) (cU (B+1) S.tz.length "A" f0 m0 S.az.length (hN nl de.k0) 0)).put (B+1) (cU (B+1) S.tz.length "A" f0 m0 S.az.length (hN nl de.k0) (hN nl de.k1))).get k=s8.get k:=λ k h=>(aR h).trans (aR h)
 have l10:((s8.put (B+1) (cU (B+1) S.tz.length "A" f0 m0 S.az.length (hN nl de.k0) 0)).put (B+1) (cU (B+1) S.tz.length "A" f0 m0 S.az.length (hN nl de.k0) (hN nl de.k1))).len=s8.len:=aj.trans aj
 show Q (.int S.az.length) ((s8.put (B+1) (cU (B+1) S.tz.length "A" f0 m0 S.az.length (hN nl de.k0) 0)).put (B+1) (cU (B+1) S.tz.length "A" f0 m0 S.az.length (hN nl de.k0) (hN nl de.k1)))
 generalize ((s8.put (B+1) (cU (B+1) S.tz.length "A" f0 m0 S.az.length (hN nl de.k0) 0)).put (B+1) (cU (B+1) S.tz.length "A" f0 m0 S.az.length (hN nl de.k0) (hN nl de.k1)))=s10 at L10 oA10 r10 l10 ⊢
 have ln38:s3.len≤s8.len:=JT (JT lw lw5) (JT ln6 (JT ln7 ln8))
 have b3:∀{k},k<B→k<B+8:=λ h=>JS h (JU B 8)
 have fr:∀k,k<B→(k<p∨p+14≤k)→s10.get k=σ.get k:=λ k a b=>by
  have n:∀j,k≠B+j:=λ j=>J5 (JS a (JU B j))
  exact (r10 k (n 1)).trans ((r8 k (l26 M7.L.len (b3 a)) (bP b) (n 10)).trans ((r7 k (l26 M6.L.len (b3 a)) (bP b) (n 9)).trans ((r6 k (l26 M5.L.len (b3 a)) (bP b) (n 8)).trans ((r5' k (JS a (JU B 26))).trans ((r13 k (b8 (b3 a)) (bP b)).trans ((r1 k a b).trans (fr0 k a b)))))))
 have late:∀k,B+11≤k→k<s5.len→s10.get k=s5.get k:=λ k a b=>
  (r10 k (gt11 a 1 (by decide))).trans ((r8 k (JS b (JT ln6 ln7)) (pB11 a) (gt11 a 10 (by decide))).trans ((r7 k (JS b ln6) (pB11 a) (gt11 a 9 (by decide))).trans (r6 k b (pB11 a) (gt11 a 8 (by decide)))))
 have pr:S1.rows<+:rows8:=pr3.trans (pr6.trans (pr7.trans pr8))
 have hSle:S.le {S1 with rows:=rows8}:=(le0.trans le1).trans ⟨pr,J1 _,J1 _,J1 _,J1 _⟩
 have hty:S1.tz=S.tz++[some (B+1,S.az.length)]++[some (B+12,S.az.length)]:=ty1.trans ty0
 have hbk:∀i n a:Nat,S1.tz[i]? =some (some (n,a))→S.tz[i]? =some (some (n,a))∨(a=S.az.length∧(i=S.tz.length∨i=S.tz.length+1)):=λ i n a e=>by
  rw [hty] at e
  rcases bU e with e|⟨e1,e2⟩
  ·rcases bU e with e|⟨e1,e2⟩
   ·exact .inl e
   ·cases e2;exact .inr ⟨rfl,.inl e1⟩
  ·cases e2;exact .inr ⟨rfl,.inr (by rw [e1,List.length_append];rfl)⟩
 have lB:B≤s10.len:=JT (JU B 26) L10.len
 have has:S1.az.length=S.az.length+1:=by rw [as1,as0,List.length_append];rfl
 have hs8:AS.size {S1 with rows:=rows8}≤S.size+200:=JT (nk (AS.szR (S:={S1 with rows:=rows7}) sz8) (nk (AS.szR (S:={S1 with rows:=rows6}) sz7) (nk (AS.szR (S:={S1 with rows:=rows3}) sz6) (nk (AS.szR sz3) (nk sz1 sz0))))) (JW (show 147≤200 by decide) _)
 have lib10:fZ s10 p {S1 with rows:=rows8} lib:=Wd.l.mono hSle (by rw [hB];exact lB) λ k a b=>fr k (hB▸b) (.inr a)
 have hW:WS s10 p {S1 with rows:=rows8} lib:=⟨L10.C,lib10,Wd.l1,JS Wd.l2 (by rw [hty,List.length_append,List.length_append];exact Nat.le_add_right_of_le (JU _ _)),λ i n a e=>by
  show a<S1.az.length
  rw [has]
  exact (hbk i n a e).elim (λ h=>Kr (Wd.asm i n a h)) λ h=>h.1▸Kc _,Wd.z.mono hSle⟩
 refine k s10 {S1 with rows:=rows8} ⟨S.tz.length,S.tz.length+1,lib⟩ nl f0 f1 m0 m1 (sw.len+2) sw.len cv iv pv ev ?_ rfl hW hSle hs8 has lB fr λ i n a e hne=>(hbk i n a e).elim id λ h=>absurd h.1 hne
 have hl10:s8.len≤s10.len:=J3 l10.symm
 have q26:∀{k},B+26≤k→s10.get k=s8.get k:=λ h=>r10 _ (J8 (JS (J0 (show 1<26 by decide) B) h))
 have x:∀(i:Nat) {v:Mine.O},Nat.beq i 1=false→s8.get (B+i)=some v→s10.get (B+i)=some v:=λ i yy a e=>(r10 _ (nf (j:=1) a)).trans e
 have lj:∀{s:St} (_:B+26≤s.len) {j:Nat} (_:j<26),B+j<s.len:=λ h yy a=>JS (J0 a B) h
 have y8:∀(i:Nat) {v:Mine.O},Nat.beq i 10=false→s7.get (B+i)=some v→s8.get (B+i)=some v:=λ i yy a e=>(r8 _ (ac e) (pB (JU B i)) (nf (j:=10) a)).trans e
 have y7:∀(i:Nat) {v:Mine.O},Nat.beq i 9=false→s6.get (B+i)=some v→s7.get (B+i)=some v:=λ i yy a e=>(r7 _ (ac e) (pB (JU B i)) (nf (j:=9) a)).trans e
 have bd:=M8.bds
 have swB:B+26≤sw.len:=M4.L.len
 have B26:∀{k},B+26≤k→B≤k:=λ h=>JT (JU B 26) h
 have B11:∀{k},B+26≤k→B+11≤k:=λ h=>JT (JW (by decide) B) h
 have l510:s5.len≤s10.len:=JT (JT ln6 (JT ln7 ln8)) hl10
 have wd:∀{k},B+26≤k∧k<s8.len→B≤k∧k<s10.len:=λ h=>⟨B26 h.1,JS h.2 hl10⟩
 exact ⟨L10.C,L0.ok,by show S1.az[S.az.length]? =_;rw [as1,as0];exact Kg,M8.tA,(congrArg (λ l=>l[S.tz.length+1]?) ty1).trans tyB,λ i n e=>(hbk i n _ e).elim (λ h=>absurd (Wd.asm i n _ h) (Lw _)) λ h=>h.2,lib10,oA10,x 12 rfl M8.oB,
  M8.ttA.frame hl10 λ k a yy=>r10 k (J8 a),M8.ttB.frame hl10 λ k a yy=>r10 k (gt11 (JT (JW (show 11≤13 by decide) B) a) 1 (by decide)),(q26 bd.1.1).trans M8.f0,(q26 bd.2.1.1).trans M8.f1,(q26 bd.2.2.1.1).trans M8.m0,(q26 bd.2.2.2.1).trans M8.m1,
  λ t r h=>(M8.F t r h).2.mono .rfl' hl10 λ k a yy=>q26 a,λ t r h=>(M8.M t r h).2.mono .rfl' hl10 λ k a yy=>q26 a,
  (late _ (JT (B11 swB) (JU _ 2)) l5w).trans g5b,(late _ (B11 swB) (KU (KU l5w))).trans g5c,(late _ (KQ (B11 swB)) (KU l5w)).trans g5d,cP3.mono λ yy yy q=>q.mono (pr6.trans (pr7.trans pr8)),
  x 8 rfl (y8 8 rfl (y7 8 rfl g6)),P6.mono λ yy yy q=>q.mono (pr7.trans pr8),x 9 rfl (y8 9 rfl g7),P7.mono λ yy yy q=>q.mono pr8,x 10 rfl g8,P8,x 19 rfl M8.i1,x 20 rfl M8.p1,x 21 rfl M8.e1,M1.L.b,
  ⟨L10.len,wd bd.1,wd bd.2.1,wd bd.2.2.1,wd bd.2.2.2,⟨JT (B26 swB) (JU _ 2),JS l5w l510⟩,B26 swB,JS (KU l5w) l510⟩,Wd.z.mono hSle⟩
section
variable {C:ak} {ρ:ax} {σ:St} {xs ys:List X} {f:String}
theorem It {n:Nat} {t:Tg} {x:V} {y:Int} {Q:V→St→Prop} (g:σ.get n=some (.list t [x])) (h0:0≤y) (h1:y≤1000) (q:Q (.ref σ.len) (σ.new (.list aa (Mine.rep y.toNat [x])))):iD .mul (.ref n) (.int y) σ Q:=by
 unfold iD;simp only [g];exact ⟨h0,h1,rfl,q⟩
theorem Iq {m:Nat} (hl:σ.len=m):∀Q,Q (.ref (m+1)) ((σ.new (.list aa [.none])).new (.list aa (Mine.rep 64 [.none])))→aH C (.bin .mul (.list [.none]) (.int 64)) ρ σ Q:=λ Q q=>
 kL (Q:=λ u σ1=>iD .mul u (.int 64) σ1 Q) (pS rfl) (It (y:=64) be (by decide) (by decide) (eb hl▸q))
theorem Hb {Q:List V→St→Prop} (q:aI C xs ρ σ λ vs σ1=>C (.g f) vs σ1 λ v σ2=>aI C ys ρ σ2 λ ws σ3=>Q (v::ws) σ3):aI C (.call f xs::ys) ρ σ Q:=q
theorem II {Q:List V→St→Prop} (q:aI C xs ρ σ λ vs σ1=>aI C ys ρ σ1 λ ws σ2=>Q (.tup vs::ws) σ2):aI C (.tup xs::ys) ρ σ Q:=q
theorem yW {Q:V→St→Prop} (q:aI C xs ρ σ λ vs σ1=>Q (.tup vs) σ1):aH C (.tup xs) ρ σ Q:=q
theorem IJ {Q:List V→St→Prop} {zs:List X} {vs:List V} (h:∀Q,Q vs σ→aI C zs ρ σ Q) (q:aI C xs ρ (σ.new (.list aa vs)) λ ws σ2=>Q (.ref σ.len::ws) σ2):aI C (.list zs::xs) ρ σ Q:=kL h q
end
theorem yP {d junk p:Nat} {σ s2:St} {Q:V→St→Prop} (hj:junk≤2)
  (k:∀lib S σ',WS σ' p S lib→S.size≤500→p≤σ'.len→(∀k,k<p→σ'.get k=σ.get k)→Q (.tup [.ref p,.int (lib:Nat)]) σ') (C2:SC s2 p ⟨(List.range 16).map aF.prim,List.replicate 64 none,[none],[none],["core"]⟩) (fr2:∀k,k<p→s2.get k=σ.get k):
  ah (aw (d+8)) (eT.drop 3) [some (.int junk),some (.ref p),none,none,none] s2 λ o yy σ'=>Q (cp o) σ':=by
 apply dj (pS rfl)
 refine je C2 (by decide) λ s3 C3 l3 f3=>?_
 have fr3:∀k,k<p→s3.get k=σ.get k:=λ k hk=>(f3 k (J5 (JS hk (JU p 11)))).trans (fr2 k hk)
 refine dl (nW (n:=junk) (pX rfl) (JT hj (by decide))) ?_
 refine dE (λ i ρ s=>∀P:Prop,(∀S x3 x4,SC s p S→S.az=["core","junk"]→S.tz.length=64+i→S.size≤100+20*i→(∀i n a:Nat,S.tz[i]? =some (some (n,a))→a<2)→Zr S→(∀k,k<p→s.get k=σ.get k)→ρ=[some (.int junk),some (.ref p),some (.int 1),x3,x4]→P)→P)
  (λ ρ s I=>I _ λ S x3 x4 C ha ht hsz hb hzr hf e=>⟨trivial,?_⟩) (λ i hi ρ s I=>I _ λ S x3 x4 C ha ht hsz hb hzr hf e=>⟨trivial,λ K hK=>?_⟩)
  λ P k=>k _ none none C3 rfl rfl (by decide) (λ i n a e=>by cases (List.mem_replicate.mp (Kh e)).2) ⟨rfl,rfl,rfl⟩ fr3 rfl
 ·subst e
  have hs0:S.size≤140:=JT hsz (JW (KJ 20 hj) 100)
  refine dz (yW ?_)
  apply aE (pX rfl)
  apply Hb
  apply aE (pX rfl)
  apply gZ (pS rfl)
  refine je C (JV hs0 (by decide)) λ s4 C4 l4 f4=>?_
  apply aE (pX rfl)
  apply aE (pX rfl)
  apply aE (pX rfl)
  apply aE (pX rfl)
  apply oF rfl
  have C4':SC (s4.new (.list aa [])) p {S with az:=S.az++["lib"]}:=C4.frame' (Kb aQ) λ k a b=>aP b
  have sz4:AS.size {S with az:=S.az++["lib"]}≤141:=AS.szA▸Kj hs0
  refine eS (ps:=[]) C4' (JV sz4 (by decide)) be (.inl C4.len) (.inl rfl) λ s5 C5 T5 l5 f5=>?_
  have fr5:∀k,k<p→s5.get k=σ.get k:=λ k hk=>by
   have n:∀j,k≠p+j:=λ j=>J5 (JS hk (JU p j))
   have hl:k<s4.len:=JS hk (JT (JU p 14) C4.len)
   exact (f5 k (JY hl aQ) (n 13) (n 10)).trans ((aP hl).trans ((f4 k (n 11)).trans (hf k hk)))
  have e1:(S.az++["lib"])[S.az.length]? =some "lib":=Kg
  have hpl:p+14≤(s4.new (.list aa [])).len:=JT C4.len (Kb aQ)
  refine k S.tz.length _ s5 ⟨C5,⟨_,S.az.length,_,_,Kg,e1,T5.g 0 rfl,TT.of T5 (by rw [l5];exact JW (by decide) _),hpl,J3 l5.symm⟩,by rw [ht];exact JU _ _,by rw [List.length_append];exact Kc _,λ i n a e=>?_,hzr.mono ⟨J1 _,Ku _ _,J1 _,J1 _,Ku _ _⟩⟩
   (JT (J3 AS.szT) (JT (Kj sz4) (by decide))) (JT (JT (JU p 14) hpl) (by rw [l5];exact JU _ _)) fr5
  rw [List.length_append,ha]
  rcases bU e with e|⟨_,e⟩
  ·exact JY (hb i n a e) (by decide)
  ·cases e
   rw [ha];exact (by decide:2<2+1)
 ·subst e
  have hs0:S.size≤140:=JT hsz (JW (KJ 20 (JT (Kb hi) hj)) 100)
  apply bq
  apply cy
  apply aE (pX rfl)
  apply aE (pX rfl)
  apply aE (pX rfl)
  apply aE (pX rfl)
  apply aE (pX rfl)
  apply aE (pX rfl)
  refine IJ (vs:=[.str "T"]) (pS rfl) ?_
  have C':SC (s.new (.list aa [.str "T"])) p S:=C.frame' (Kb aQ) λ k a b=>aP b
  refine eS (asm:=1) (ps:=["T"]) C' (JV hs0 (by decide)) be (.inl C.len) (.inr rfl) λ s4 C4 T4 l4 f4=>?_
  have hpn:p+14≤(s.new (.list aa [.str "T"])).len:=JT C.len (Kb aQ)
  have hk4:∀k,k<p→s4.get k=σ.get k:=λ k hk=>by
   have n:∀j,k≠p+j:=λ j=>J5 (JS hk (JU p j))
   have hl:k<s.len:=JS hk (JT (JU p 14) C.len)
   exact (f4 k (JY hl aQ) (n 13) (n 10)).trans ((aP hl).trans (hf k hk))
  generalize (s.new (.list aa [.str "T"])).len=n at*
  have sz4:AS.size {S with tz:=S.tz++[some (n,1)]}≤S.size+1:=J3 AS.szT
  apply fg
  apply cy
  apply aE (pX rfl)
  apply aE (pX rfl)
  apply aE (pX rfl)
  apply Hb
  apply aE (by dsimp! [C4.inst])
  apply gZ (by dsimp! [C4.inst])
  have hr:S.rows.length≤140:=JT AS.sz_rows hs0
  refine eR (a:=[13]) C4.kt (JV hr (by decide)) (by rw [ht];exact JU _ _) (.inr (.inr rfl)) λ k1 rows1 s5 T5 pr5 sz5 e5 l5 f5=>?_
  refine iB T5 (JV sz5 (JV (Kj hr) (by decide))) e5 (λ yy h=>nomatch h) (λ yy h=>nomatch h) λ k2 rows2 s6 T6 pr6 sz6 e6 l6 f6=>?_
  apply aE (pX rfl)
  apply aE (pX rfl)
  have l46:s6.len=n+10:=l6.trans (l5.trans l4)
  have C6:=C4.kt_upd T6 (J3 (l46.trans l4.symm).symm) λ n yy b=>(f6 n b).trans (f5 n b)
  have sz6':rows2.length≤S.rows.length+2:=JT sz6 (Kj sz5)
  have z6:AS.size {S with rows:=rows2,tz:=S.tz++[some (n,1)]}≤S.size+3:=JT (AS.szR (S:={S with tz:=S.tz++[some (n,1)]}) sz6') (Ki sz4 2)
  have bn:∀i,p+14≤n+i:=λ i=>JT hpn (JU n i)
  have b7:∀i,p+7≤n+i:=λ i=>JT (JW (by decide) p) (bn i)
  have nb:∀i j,j<14→n+i≠p+j:=λ i j h=>J8 (JS (J0 h p) (bn i))
  have F6:∀(i:Nat) {o:Mine.O},s4.get (n+i)=some o→s6.get (n+i)=some o:=λ i yy e=>(f6 _ (.inr (b7 i))).trans ((f5 _ (.inr (b7 i))).trans e)
  refine jC (lf:=[]) C6 (JV z6 (JV (Ki hs0 3) (by decide))) Kg (F6 0 (T4.g 0 rfl)) (F6 5 (T4.g 5 rfl)) (bn 5) (by decide) λ s7 C7 l7 g7 g7f f7=>?_
  have z7:AS.size {S with rows:=rows2,tz:=S.tz++[some (n,1)],flds:=S.flds++[some s6.len]}≤S.size+4:=JT (J3 (AS.szF (S:={S with rows:=rows2,tz:=S.tz++[some (n,1)]}))) (Kj z6)
  apply fg
  apply cy
  apply aE (pX rfl)
  apply aE (pX rfl)
  apply aE (pX rfl)
  apply aE (pX rfl)
  apply aE (pX rfl)
  apply aE (pX rfl)
  apply II
  apply gZ (by dsimp! [C7.inst])
  refine lE (i:=1) C7.kt (JV (JT sz6' (Ki hr 2)) (by decide)) λ k3 rows3 s8 T8 pr8 sz8 e8 l8 f8=>?_
  have C8:=C7.kt_upd T8 (J3 l8.symm) λ n yy b=>f8 n b
  have z8:AS.size {S with rows:=rows3,tz:=S.tz++[some (n,1)],flds:=S.flds++[some s6.len]}≤S.size+5:=JT (AS.szR (S:={S with rows:=rows2,tz:=S.tz++[some (n,1)],flds:=S.flds++[some s6.len]}) sz8) (Kj z7)
  have F8:∀(i:Nat) {o:Mine.O},Nat.beq i 5=false→s4.get (n+i)=some o→s8.get (n+i)=some o:=λ i yy h e=>(f8 _ (.inr (b7 i))).trans ((f7 _ (ac (F6 i e)) (nb i 8 (by decide)) (nf h)).trans (F6 i e))
  refine iC (fl:=0) (ret:=0) (ks:=[k3]) (lm:=[]) C8 (JV z8 (JV (Ki hs0 5) (by decide))) Kg (F8 0 rfl (T4.g 0 rfl)) (F8 6 rfl (T4.g 6 rfl)) (bn 6) (by decide) (by decide) (by decide) (show 1≤2 by decide) (.inl rfl) λ s9 C9 l9 g9 g9f f9=>?_
  have z9:AS.size {S with rows:=rows3,tz:=S.tz++[some (n,1)],flds:=S.flds++[some s6.len],mzz:=S.mzz++[some s8.len]}≤S.size+6:=JT (J3 (AS.szM (S:={S with rows:=rows3,tz:=S.tz++[some (n,1)],flds:=S.flds++[some s6.len]}))) (Kj z8)
  refine hK _ _ λ P k=>k _ _ _ C9 ha (by rw [List.length_append,ht];rfl) (JT z9 (JT (Ki hsz 6) (JW (JW (show 6≤20 by decide) (20*i)) 100))) (λ i n' a e=>(bU e).elim (hb i n' a) λ e=>by cases e.2;exact Kc 1)
   (hzr.mono ⟨(pr5.trans pr6).trans pr8,Ku _ _,Ku _ _,Ku _ _,J1 _⟩) (λ k hk=>?_) rfl
  have hkn:k<n:=JS hk (JT (JU p 14) hpn)
  have h6:k<s6.len:=by rw [l46];exact Ks 10 hkn
  have np:∀j,k≠p+j:=λ j=>J5 (JS hk (JU p j))
  have nn:∀j,k≠n+j:=λ j=>J5 (JS hkn (JU n j))
  have lk:k<p+2∨p+7≤k:=.inl (Ks 2 hk)
  have h7:k<s7.len:=by rw [l7];exact Kr h6
  exact (f9 k (by rw [l8];exact h7) (np 9) (nn 6)).trans ((f8 k lk).trans ((f7 k h6 (np 8) (nn 5)).trans ((f6 k lk).trans ((f5 k lk).trans (hk4 k hk)))))
theorem uE {d junk:Nat} {σ:St} {Q:V→St→Prop} (hj:junk≤2)
  (k:∀lib S σ',WS σ' σ.len S lib→S.size≤500→σ.len≤σ'.len→(∀k,k<σ.len→σ'.get k=σ.get k)→Q (.tup [.ref σ.len,.int (lib:Nat)]) σ'):aw (d+9) (.g "_law_world") [.int junk] σ Q:=by
 refine go rN rfl (bq (sI (n:=σ.len) (vs:=[]) (λ Q q=>q) rfl ?_))
 refine oM (gY rfl) (eb rfl) λ s1 I=>⟨rfl,?_⟩
 have I:Gr σ σ.len (BG σ.len) s1:=⟨I.B,I.len,λ k h=>(I.fr k h).trans (aP h)⟩
 generalize hp:σ.len=p at*
 apply cJ (by dsimp! [(I.B.g 0 rfl)]) (I.B.g 11 rfl) (by dsimp!) (show 0<aN by decide)
 have I:=I.put (i:=11) (o:=.list aa [.str "core"]) (show 11<12 by decide)
 have J:=(I.new (o:=.list aa [.none])).new (o:=.list aa (Mine.rep 64 [.none]))
 apply so (r:=p) (Iq I.len) (pX rfl) (J.B.g 0 rfl) rfl
 have J:Gr σ p (nU p::(zJ p 16++[.list aa [.none],.list aa [.none],.list aa [.none],.dict aa 2 [],.list aa [.str "core"],.list aa [.none],.list aa (Mine.rep 64 [.none])])) _:=J.put (i:=0) (o:=nU p) (show 0<14 by decide)
 refine yP hj k ⟨J.B.g 0 rfl,eZ.of (JT (JW (show 7≤14 by decide) p) (J3 J.len.symm)) λ i {o} e=>J.B.g (i+1) ((Lk (Ka.mp e).1).trans e),J.B.g 8 rfl,J.B.g 9 rfl,⟨[],J.B.g 10 rfl,Kw _⟩,J.B.g 11 rfl,J.B.g 13 rfl,J3 J.len.symm,λ i n a e=>by cases (List.mem_replicate.mp (Kh e)).2⟩ J.fr
noncomputable def cA:List K:=[.none,.prim 0,.prim 4,.prim 7,.prim 12,.prim 13,.var,.cls false 7,.cls false 13,.cls true 7,.cls true 13,.lib,.arr .var,.arr (.cls false 7)]
theorem bN:∀t∈bB,aT t∈cA:=by decide
theorem fc:∀t a,K.cls t (ka a)∈cA:=by decide
noncomputable def K.sub:K→List K
 | .cls _ a=>[.prim a]
 | .arr t=>[t]
 |_=>[]
theorem py:∀t∈cA,∀s∈t.sub,s∈cA:=by decide
theorem ea {α:Type}:∀{l m:List α},l.Nodup→(∀x∈l,x∈m)→l.length≤m.length
 |[],m,_,_=>Kw _
 |a::l,m,nd,h=>by
  have nd:=KE.mp nd
  have ha:=h a (.head _)
  have i:=ea (m:=m.erase a) nd.2 λ x hx=>(List.mem_erase_of_ne (λ e:x=a=>nd.1 (e▸hx))).mpr (h x (.tail _ hx))
  rw [List.length_erase_of_mem ha] at i
  exact Nat.succ_le_of_lt (JV i (Nat.sub_lt (List.length_pos_of_mem ha) Nat.one_pos))
noncomputable def K.pv:K→Nat→V
 | .none,_=>.tup []
 | .prim n,_=>.tup [.int 1,.int n]
 | .var,_=>.tup [.int 6,.int 0]
 | .cls b _,m=>.tup [.int 2,.tup [.int (bn b:Nat)],.tup [.int m]]
 | .lib,_=>.tup [.int 2,.tup [.str "lib",.str "L",.int 0],.tup []]
 | .arr _,m=>.tup [.int 4,.int m]
noncomputable def K.sh:K→K
 | .cls b _=>.cls b 0
 | .arr _=>.arr .none
 |t=>t
noncomputable def K.tag:K→Nat
 | .none=>0
 | .prim _=>1
 | .var=>6
 | .cls _ _=>2
 | .lib=>3
 | .arr _=>4
noncomputable def Gv:List V→Nat
 | .int i::.tup (.str _::_)::_=>i.toNat+1
 | .int i::_=>i.toNat
 |_=>0
noncomputable def Fq:V→Nat
 | .tup l=>Gv l
 |_=>0
theorem wg (t:K) (m:Nat):Fq (t.pv m)=t.tag:=by cases t<;>rfl
theorem mP {a b:V} {l l':List V} (h:V.tup (a::l)=.tup (b::l')):a=b:=(dh h).1
theorem pA {a b:V} {l l':List V} (h:V.tup (a::l)=.tup (b::l')):V.tup l=.tup l':=(dh h).2
theorem BS {t t':K} {m m':Nat} (e:t.pv m=t'.pv m'):t.sh=t'.sh∧(t.sub=[]∨m=m'):=by
 have h:t.tag=t'.tag:=(wg t m).symm.trans ((congrArg Fq e).trans (wg t' m'))
 cases t with
 |none=>cases t' with
  |none=>exact ⟨rfl,.inl rfl⟩
  |_=>exact absurd h (KM rfl)
 |prim n=>cases t' with
  |prim n'=>exact ⟨congrArg K.prim (aO (mP (pA e))),.inl rfl⟩
  |_=>exact absurd h (KM rfl)
 |var=>cases t' with
  |var=>exact ⟨rfl,.inl rfl⟩
  |_=>exact absurd h (KM rfl)
 |cls b a=>cases t' with
  |cls b' a'=>exact ⟨congrArg (K.cls · 0) (hH (aO (mP (mP (pA e))))),.inr (aO (mP (mP (pA (pA e)))))⟩
  |_=>exact absurd h (KM rfl)
 |lib=>cases t' with
  |lib=>exact ⟨rfl,.inl rfl⟩
  |_=>exact absurd h (KM rfl)
 |arr s=>cases t' with
  |arr s'=>exact ⟨rfl,.inr (aO (mP (pA e)))⟩
  |_=>exact absurd h (KM rfl)
theorem K.sub_cases (t:K):(t.sub=[]∧∀m m',t.pv m=t.pv m')∨∃s,t.sub=[s]:=by
 cases t with
 |cls b a=>exact .inr ⟨_,rfl⟩
 |arr s=>exact .inr ⟨_,rfl⟩
 |_=>exact .inl ⟨rfl,λ yy yy=>rfl⟩
theorem K.sub_sh (t:K):t.sub.length=t.sh.sub.length:=by cases t<;>rfl
noncomputable def K.back:K→List K→K
 | .cls b _,.prim a::_=>.cls b a
 | .arr _,s::_=>.arr s
 |t,_=>t
theorem K.back_sh (t:K):t.sh.back t.sub=t:=by cases t<;>rfl
theorem K.ext' {t t':K} (h:t.sh=t'.sh) (e:t.sub=t'.sub):t=t':=by rw [←t.back_sh,←t'.back_sh,h,e]
noncomputable def cN (I:List K) (t:K) (v:V):Prop:=∃m:Nat,(∀s∈t.sub,I[m]? =some s)∧v=t.pv m
theorem cN.mono {I I':List K} (h:I<+:I') {t:K} {v:V} (q:cN I t v):cN I' t v:=q.imp λ yy q=>⟨λ s hs=>ba h (q.1 s hs),q.2⟩
theorem cN.inj {I:List K} (t t':K) (v:V) (q:cN I t v) (q':cN I t' v):t=t':=q.elim λ m q=>q'.elim λ m' q'=>by
 have e:=BS (q.2.symm.trans q'.2)
 refine K.ext' e.1 ?_
 have hl:t.sub.length=t'.sub.length:=t.sub_sh.trans ((congrArg (λ s:K=>s.sub.length) e.1).trans t'.sub_sh.symm)
 rcases t.sub_cases with h|⟨s,h⟩
 ·rw [h.1] at hl
  rw [h.1,List.eq_nil_of_length_eq_zero hl.symm]
 ·rcases t'.sub_cases with h'|⟨s',h'⟩
  ·rw [h'.1,h] at hl;cases hl
  ·have em:m=m':=e.2.elim (λ x=>by rw [h] at x;cases x) id
   have a:=q.1 s (by rw [h];exact .head _)
   have b:=q'.1 s' (by rw [h'];exact .head _)
   rw [h,h',Option.some.inj (a.symm.trans (em▸b))]
theorem cN.fn {I:List K} (nd:I.Nodup) (t:K) (a b:V) (qa:cN I t a) (qb:cN I t b):a=b:=qa.elim λ m q=>qb.elim λ m' q'=>by
 rw [q.2,q'.2]
 rcases t.sub_cases with h|⟨s,h⟩
 ·exact h.2 m m'
 ·rw [cw nd (q.1 s (by rw [h];exact .head _)) (q'.1 s (by rw [h];exact .head _))]
inductive mM (R:K→V→Prop) (I:List K):List K→List (V×V)→Prop
 |nil:mM R I [] []
 |cons {t:K} {k:V} {n:Nat} {T:List K} {l:List (V×V)}:R t k→I[n]? =some t→mM R I T l→mM R I (t::T) ((k,vi n)::l)
section
variable {R R':K→V→Prop} {I I' T:List K} {l:List (V×V)} {t:K} {k:V}
theorem mM.mono (h:mM R I T l) (hI:I<+:I') (hR:∀t k,R t k→R' t k):mM R' I' T l:=by
 induction h with
 |nil=>exact .nil
 |cons a b _ ih=>exact .cons (hR _ _ a) (ba hI b) ih
theorem mM.snoc {n:Nat} (h:mM R I T l) (a:R t k) (b:I[n]? =some t):mM R I (T++[t]) (l++[(k,vi n)]):=by
 induction h with
 |nil=>exact .cons a b .nil
 |cons x y _ ih=>exact .cons x y ih
theorem mM.len (h:mM R I T l):l.length=T.length:=by
 induction h with
 |nil=>rfl
 |cons _ _ _ ih=>exact congrArg (· +1) ih
theorem mM.look (h:mM R I T l) (fn:∀t k k',R t k→R t k'→k=k') (inj:∀t t' k,R t k→R t' k→t=t') (q:R t k):(t∈T→∃n:Nat,ae l k=some (vi n)∧I[n]? =some t)∧(t∉T→ae l k=none):=by
 induction h with
 |nil=>exact ⟨λ h=>absurd h Kf,λ yy=>rfl⟩
 |@cons s k' n T l a b _ ih=>
  by_cases e:s=t
  ·subst e
   have e:=fn s k' k a q
   exact ⟨λ yy=>⟨n,if_pos e,b⟩,λ hn=>absurd (.head _) hn⟩
  ·have e':ae ((k',vi n)::l) k=ae l k:=if_neg λ e':k'=k=>e (inj s t k (e'▸a) q)
   rw [e']
   exact ⟨λ hm=>ih.1 ((KG.mp hm).resolve_left λ h=>e h.symm),λ hm=>ih.2 λ h=>hm (.tail _ h)⟩
end
structure Cx where
 σ0:St
 E:Nat
 p:Nat
 pb:Nat
 S:AS
 o:bJ
structure Cx.Ok (c:Cx):Prop where
 E:c.E=c.σ0.len
 C:SC c.σ0 c.p c.S
 ok:c.o.Ok
 z:Zr c.S
 lib:fZ c.σ0 c.p c.S c.o.l
 pb:c.pb=c.E+3∨c.pb=c.E+6
 sz:c.S.size<90000
noncomputable def KR (c:Cx) (t:K) (v:V):Prop:=∃k:Int,v=.int k∧c4 c.S.rows c.o t k
noncomputable def JF (c:Cx):Mine.O:=.inst aa "Paths" [("store",.ref c.p),("places",.ref (c.pb+1)),("index",.ref (c.E+2)),("known",.ref (c.pb+2))]
structure TP (c:Cx) (σ:St) (I T:List K):Prop where
 same:∀k,k<c.E→σ.get k=c.σ0.get k
 ix:∃l,σ.get (c.E+2)=some (.dict aa 2 l)∧mM (cN I) I I l
 inst:σ.get c.pb=some (JF c)
 places:σ.get (c.pb+1)=some (.dict aa 0 [(.int c.o.a,.int 0),(.int c.o.b,.int 1)])
 kn:∃l,σ.get (c.pb+2)=some (.dict aa 0 l)∧mM (KR c) I T l
 nd:I.Nodup
 un:∀t∈I,t∈cA
 tnd:T.Nodup
 tun:∀t∈T,t∈cA
 len:c.E+9≤σ.len
structure AZ (c:Cx) (σ σ':St):Prop where
 len:σ.len≤σ'.len
 get:∀k,k<σ.len→k≠c.E+2→k≠c.pb+2→σ'.get k=σ.get k
theorem AZ.rfl' {c:Cx} {σ:St}:AZ c σ σ:=⟨Kd _,λ yy yy yy yy=>rfl⟩
theorem AZ.trans {c:Cx} {σ σ' σ'':St} (a:AZ c σ σ') (b:AZ c σ' σ''):AZ c σ σ'':=⟨JT a.len b.len,λ k h1 h2 h3=>(b.get k (JS h1 a.len) h2 h3).trans (a.get k h1 h2 h3)⟩
noncomputable def Ag (num:K→Nat) (I:List K):Prop:=∀(n:Nat) t,I[n]? =some t→num t=n
theorem Ag.mono {num:K→Nat} {I I':List K} (h:I<+:I') (a:Ag num I'):Ag num I:=λ n t e=>a n t (ba h e)
theorem Cx.Ok.pb9 {c:Cx} (O:c.Ok) {i:Nat} (h:i<3):c.pb+i<c.E+9:=O.pb.elim (λ e=>e▸JS (J0 h _) (JW (show 6≤9 by decide) c.E)) λ e=>e▸J0 h (c.E+6)
theorem Cx.Ok.E3 {c:Cx} (O:c.Ok) (i:Nat):c.E+3≤c.pb+i:=JT (O.pb.elim (λ e=>J3 e.symm) λ e=>JT (JW (show 3≤6 by decide) c.E) (J3 e.symm)) (JU _ _)
theorem TP.frame {c:Cx} {σ σ':St} {I T:List K} (O:c.Ok) (P:TP c σ I T) (hl:σ.len≤σ'.len) (h:∀k,k<c.E+9→σ'.get k=σ.get k):TP c σ' I T:=
 ⟨λ k hk=>(h k (Ks 9 hk)).trans (P.same k hk),P.ix.imp λ yy i=>⟨(h _ (J0 (by decide) c.E)).trans i.1,i.2⟩,(h _ (O.pb9 (i:=0) (by decide))).trans P.inst,(h _ (O.pb9 (by decide))).trans P.places,P.kn.imp λ yy i=>⟨(h _ (O.pb9 (by decide))).trans i.1,i.2⟩,P.nd,P.un,P.tnd,P.tun,JT P.len hl⟩
theorem gk {c:Cx} (O:c.Ok) {I T:List K} {l:List (V×V)} (h:mM (KR c) I T l) {t:K} {k:Int} (hk:c4 c.S.rows c.o t k):(t∈T→∃n:Nat,ae l (.int k)=some (vi n)∧I[n]? =some t)∧(t∉T→ae l (.int k)=none):=
 h.look (λ t k k' a b=>a.elim λ i a=>b.elim λ j b=>a.1.trans ((congrArg V.int (c4.fn O.C.kt a.2 b.2)).trans b.1.symm)) (λ t t' k a b=>a.elim λ i a=>b.elim λ j b=>c4.inj O.C.kt O.ok a.2 (V.int.inj (a.1.symm.trans b.1)▸b.2)) ⟨k,rfl,hk⟩
theorem zK {I:List K} {l:List (V×V)} (nd:I.Nodup) (h:mM (cN I) I I l) {t:K} {v:V} (q:cN I t v):
  (∀n:Nat,I[n]? =some t→ae l v=some (vi n))∧(t∉I→ae l v=none):=
 have k:=h.look (cN.fn nd) cN.inj q
 ⟨λ n hn=>(k.1 (Kh hn)).elim λ m e=>cw nd hn e.2▸e.1,k.2⟩
theorem BE {σ:St} {r kd:Nat} {t:Tg} {es:List (V×V)} {k v:V} {Q:V→St→Prop} (g:σ.get r=some (.dict t kd es)) (hk:kk kd k=true) (h:ae es k=some v) (q:Q v σ):fb (.ref r) k σ Q:=
 bR g (show (if kk kd k=true then ae es k else none)=some v from (if_pos hk).trans h) q
theorem eQ {d:Nat} {c:Cx} {σ:St} {I T:List K} {t:K} {k:Int} {Q:V→St→Prop} (O:c.Ok) (P:TP c σ I T) (hk:c4 c.S.rows c.o t k) (ht:t∈T)
  (q:∀n:Nat,I[n]? =some t→Q (.int n) σ):aw (d+1) (.m "Paths" "kind") [.ref c.pb,.int k] σ Q:=
 P.kn.elim λ l h=>((gk O h.2 hk).1 ht).elim λ n e=>by
  refine go iS rfl ?_
  apply ay (by dsimp! [P.inst,n9,rb h.1 rfl (congrArg Option.isSome e.1)])
  exact bj (by dsimp! [P.inst,BE h.1 rfl e.1]) (q n e.2)
theorem yn {d:Nat} {c:Cx} {σ:St} {I T:List K} {t:K} {k:Int} {Q:V→St→Prop} (O:c.Ok) (P:TP c σ I T) (hk:c4 c.S.rows c.o t k) (ht:t∈T)
  (q:∀n:Nat,I[n]? =some t→∀σ',σ'.len=σ.len+1→(∀k,k<σ.len→σ'.get k=σ.get k)→Q (.tup [.int n]) σ'):aw (d+2) (.m "Paths" "kinds") [.ref c.pb,.tup [.int k]] σ Q:=by
 refine go cV rfl ?_
 apply dz
 apply mi
 refine ⟨trivial,?_⟩
 refine jr (r:=c.pb) (λ Q q=>q) P.inst bX rfl ?_
 refine eQ O P hk ht λ n hn=>⟨trivial,?_⟩
 apply nS be rfl
 exact q n hn _ aD λ k hk=>aP hk
theorem yo {d:Nat} {c:Cx} {σ:St} {Q:V→St→Prop}
  (q:∀σ',σ'.len=σ.len+1→(∀k,k<σ.len→σ'.get k=σ.get k)→Q (.tup []) σ'):aw (d+2) (.m "Paths" "kinds") [.ref c.pb,.tup []] σ Q:=by
 refine go cV rfl ?_
 apply dz
 apply mi
 refine ⟨trivial,?_⟩
 apply nS be rfl
 exact q _ aD λ k hk=>aP hk
section
variable {C:ak} {ρ:ax} {σ:St} {x a b:X} {Q:V→St→Prop}
theorem AE (h:∀Q,Q true σ→fe C x ρ σ Q) (q:aH C a ρ σ Q):aH C (.ite x a b) ρ σ Q:=h _ q
theorem xG (h:∀Q,Q false σ→fe C x ρ σ Q) (q:aH C b ρ σ Q):aH C (.ite x a b) ρ σ Q:=h _ q
end
section
variable {C:ak} {ρ:ax} {σ:St} {x:X} {l xs:List X} {vs:List V} {f:String} {Q:Bool→St→Prop}
theorem Jh (h:∀Q,Q false σ→fe C x ρ σ Q) (q:mK C false l ρ σ Q):mK C false (x::l) ρ σ Q:=h _ q
theorem Fk (h:∀Q,Q vs σ→aI C xs ρ σ Q) (q:C (.g f) vs σ λ v σ2=>bg v σ2 λ b=>Q b σ2):fe C (.call f xs) ρ σ Q:=h _ q
end
theorem Cx.Ok.b {c:Cx} (O:c.Ok):c.p+14≤c.E:=O.E▸O.C.len
theorem TP.lt {c:Cx} {σ:St} {I T:List K} (P:TP c σ I T) {k:Nat} (h:k<c.E+9):k<σ.len:=JS h P.len
theorem TP.get {c:Cx} {σ:St} {I T:List K} (O:c.Ok) (P:TP c σ I T) {k:Nat} {o:Mine.O} (g:c.σ0.get k=some o):σ.get k=some o:=(P.same k (by rw [O.E];exact ac g)).trans g
theorem TP.kt {c:Cx} {σ:St} {I T:List K} (O:c.Ok) (P:TP c σ I T):eZ σ c.p c.S.rows:=
 O.C.kt.frame (JT (J3 O.E.symm) (JT (JU c.E 9) P.len)) λ n a b=>P.same n (JS b (JT (JW (show 7≤14 by decide) c.p) O.b))
theorem qf {o:bJ} (h:o.Ok) (b:Bool):ae [(V.int o.a,V.int 0),(V.int o.b,V.int 1)] (.int (o.t b))=some (vi (bn b)):=by
 cases b with
 |false=>exact if_pos rfl
 |true=>exact (if_neg λ e=>absurd (aO e) (J5 h.ab)).trans (if_pos rfl)
theorem B8 {o:bJ} (h:o.Ok):ae [(V.int o.a,V.int 0),(V.int o.b,V.int 1)] (.int o.l)=none:=
 (if_neg λ e=>absurd (aO e) (J8 h.al)).trans (if_neg λ e=>absurd (aO e) (J8 (JY h.al h.ab)))
theorem Jt {n:Nat} (h:64≤n):(n:Int)≠0:=i0 (J8 (JS (by decide) h))
theorem bJ.Ok.t64 {o:bJ} (h:o.Ok):∀b,64≤o.t b
 |false=>h.la
 |true=>h.lb
theorem ru {d:Nat} {c:Cx} {σ:St} {I T:List K} {b:Bool} {Q:V→St→Prop} (O:c.Ok) (P:TP c σ I T) (q:Q (.tup [.int (bn b:Nat)]) σ):aw (d+1) (.g "type_path") [.ref c.pb,.int (c.o.t b)] σ Q:=by
 refine go fX rfl ?_
 apply ay (by dsimp! [vo (Jt (O.ok.t64 b))])
 apply aU (by dsimp! [P.inst,isin,rb P.places rfl (congrArg Option.isSome (qf O.ok b))])
 exact bj (by dsimp! [P.inst,BE P.places rfl (qf O.ok b)]) q
theorem Er {d:Nat} {c:Cx} {σ:St} {Q:V→St→Prop} (q:Q (.tup []) σ):aw (d+1) (.g "type_path") [.ref c.pb,.int 0] σ Q:=
 go fX rfl (aU (pT rfl) (bj (pX rfl) q))
theorem Fe {t:ax→St→(Bool→St→Prop)→Prop} {f:ax→St→(Option V→ax→St→Prop)→Prop} {n:Nat} {ρ:ax} {σ:St} {Q:Option V→ax→St→Prop} (h:∀Q,Q true σ→t ρ σ Q) (q:f ρ σ λ o ρ'' σ''=>(match o with
   |some y=>Q (some y) ρ'' σ''
   |none=>ik t f n ρ'' σ'' Q)):ik t f (n+1) ρ σ Q:=h _ q
theorem Ff {t:ax→St→(Bool→St→Prop)→Prop} {f:ax→St→(Option V→ax→St→Prop)→Prop} {n:Nat} {ρ:ax} {σ:St} {Q:Option V→ax→St→Prop} (h:∀Q,Q false σ→t ρ σ Q) (q:Q none ρ σ):ik t f (n+1) ρ σ Q:=h _ q
theorem yj {d:Nat} {c:Cx} {σ:St} {I T:List K} {Q:V→St→Prop} (O:c.Ok) (P:TP c σ I T) (q:∀σ',σ.len≤σ'.len→(∀k,k<σ.len→σ'.get k=σ.get k)→Q (.tup [.str "lib",.str "L",.int 0]) σ'):aw (d+2) (.g "type_path") [.ref c.pb,.int c.o.l] σ Q:=
 O.lib.elim λ nL h=>h.elim λ aL h=>h.elim λ fr h=>h.elim λ mr h=>by
  have S1:=P.get O O.C.inst
  have S2:=P.get O O.C.tz
  have S3:=P.get O O.C.az
  have S4:=P.get O h.2.2.1
  have S5:=P.get O h.2.2.2.1.params
  refine go fX rfl ?_
  apply ay (by dsimp! [vo (Jt O.ok.ll)])
  apply ay (by dsimp! [P.inst,isin,rb P.places rfl (congrArg Option.isSome (B8 O.ok))])
  apply dj (by dsimp! [P.inst,S1])
  refine go lM rfl ?_
  apply ay (by dsimp! [Iw (Int.not_le.mpr (Int.ofNat_lt.mpr (Nat.lt_of_lt_of_le (by decide) O.ok.ll))),S2,HP (j6 h.1)])
  apply bj (by dsimp! [bp S2 h.1])
  apply ay (pT rfl)
  apply setN (σ':=σ.new (.list aa [.str "lib"])) (v:=.ref σ.len) (λ Q q=>kL (by dsimp! [P.inst,S1,S4,bp S3 h.2.1]) q)
  apply wu
  refine ⟨2,Fe (pT rfl) ?_⟩
  apply cJ (l':=[.str "lib"]) (by dsimp!) be (by dsimp! [bT S4]) (show 1<aN by decide)
  have g1:∀{k:Nat} {o:Mine.O},σ.get k=some o→((σ.new (.list aa [.str "lib"])).put σ.len (.list aa [.str "lib",.str "L"])).get k=some o:=λ e=>aA (J5 (ac e)) (bT e)
  have g2:∀{k:Nat} {o:Mine.O},σ.get k=some o→(((σ.new (.list aa [.str "lib"])).put σ.len (.list aa [.str "lib",.str "L"])).put σ.len (.list aa [.str "lib",.str "L",.int 0])).get k=some o:=λ e=>aA (J5 (ac e)) (g1 e)
  apply cJ (l':=[.str "lib",.str "L"]) (by dsimp!) (aX aQ) (by dsimp! [g1 S4,bH (g1 S5) rfl]) (show 2<aN by decide)
  apply br (v:=.none) (by
   intro Q q
   apply AE (by dsimp! [g2 S4,g2 S4,Jq (Int.ofNat_lt.mpr (Nat.lt_of_lt_of_le (by decide) O.ok.ll))])
   simp_all! [(g2 P.inst),(g2 S1),(g2 S4),FJ (g2 S2) (show (c.S.tz.map tv)[0]? =some .none by rw [List.getElem?_map,O.z.1];rfl)])
  refine bE (Ff (n:=0) (pT rfl) ?_)
  apply bj (by dsimp! [nS (aX (px aQ)) rfl])
  exact q _ (by rw [aj,aj,aD];exact Kt _) λ k hk=>(aR (J5 hk)).trans ((aR (J5 hk)).trans (aP hk))
inductive nP (rows:List aF) (o:bJ):K→aF→Prop
 |prim (n:Nat):nP rows o (.prim n) (.prim n)
 |var:nP rows o .var (.var 0)
 |cls (b:Bool) (a:Nat):nP rows o (.cls b a) (.cls (o.t b) [a])
 |lib:nP rows o .lib (.cls o.l [])
 |arr (t:K) (e:Nat):c4 rows o t e→nP rows o (.arr t) (.arr e)
inductive EK (rows:List aF) (o:bJ):K→Int→Prop
 |none:EK rows o .none (-1)
 |row {t:K} {r:aF} (j:Nat):rows[j]? =some r→nP rows o t r→EK rows o t (j:Nat)
theorem c4.row {σ:St} {p:Nat} {rows:List aF} (T:eZ σ p rows) {o:bJ} {t:K} {k:Int} (h:c4 rows o t k):EK rows o t k:=by
 cases t with
 |none=>exact (show k=-1 from h)▸.none
 |prim n=>exact h.1▸.row n (T.prims n h.2) (.prim n)
 |var=>exact h.elim λ j e=>e.1▸.row j e.2 .var
 |cls b a=>exact h.elim λ j e=>e.1▸.row j e.2 (.cls b a)
 |lib=>exact h.elim λ j e=>e.1▸.row j e.2 .lib
 |arr t=>exact h.elim λ j e=>e.elim λ i e=>e.1▸.row j e.2.1 (.arr t i e.2.2)
theorem Jn {j:Nat}:((j:Nat):Int)≠-1:=λ e=>absurd (Kp j) (by rw [e];decide)
theorem wc:∀{b:Bool} {a:Nat},K.cls b a∈cA→a<16:=by
 have h:∀t∈cA,(match t with| .cls _ a=>decide (a<16)|_=>true)=true:=by decide
 exact λ {b a} h'=>J9 (h (.cls b a) h')
inductive yz (rows:List aF) (o:bJ) (t:K):List Nat→Prop
 |nil:t.sub=[]→yz rows o t []
 |one (s:K) (e:Nat):t.sub=[s]→c4 rows o s e→yz rows o t [e]
theorem uF {d:Nat} {c:Cx} {σ:St} {I T:List K} {t:K} {k:Int} {Q:V→St→Prop} (O:c.Ok) (P:TP c σ I T) (hk:c4 c.S.rows c.o t k) (hu:t∈cA)
  (q:∀l:List Nat,yz c.S.rows c.o t l→Q (.tup (l.map vi)) σ):aw (d+2) (.g "path_parts") [.ref c.pb,.int k] σ Q:=by
 have kt:=P.kt O
 have S1:=P.get O O.C.inst
 refine go oW rfl (dz ?_)
 cases hk.row kt with
 |none=>exact AE (pT rfl) (pX rfl _ (q [] (.nil rfl)))
 |row j hj hr=>
  apply xG (by dsimp! [vo Jn])
  apply cy
  refine zR (by dsimp! [P.inst,S1]) kt.inst k7 rfl (pS rfl) (ry kt hj (ef ?_))
  cases hr with
  |cls b a=>exact q [a] (.one _ a rfl ⟨rfl,wc hu⟩)
  |arr s e h=>exact q [e] (.one s e rfl h)
  |_=>exact q [] (.nil rfl)
theorem GR (t:K) (m:Nat):kk 2 (t.pv m)=true:=by cases t<;>rfl
theorem cN.kk {I:List K} {t:K} {v:V} (q:cN I t v):kk 2 v=true:=q.elim λ m q=>q.2▸GR t m
theorem rz {d:Nat} {c:Cx} {σ:St} {I T:List K} {t:K} {k:Int} {Q:V→St→Prop} (O:c.Ok) (P:TP c σ I T) (hk:c4 c.S.rows c.o t k) (hs:∀s∈t.sub,s∈T) (hu:t∈cA)
  (q:∀v σ',cN I t v→σ.len≤σ'.len→(∀k,k<σ.len→σ'.get k=σ.get k)→Q v σ'):aw (d+3) (.g "kind_path") [.ref c.pb,.int k] σ Q:=by
 have kt:=P.kt O
 have S1:=P.get O O.C.inst
 have j5:∀{s:K},s∈([]:List K)→I[0]? =some s:=λ h=>absurd h Kf
 have one:∀{s:K} {n:Nat},I[n]? =some s→∀s'∈[s],I[n]? =some s':=λ h s' hs=>Ko.mp hs▸h
 refine go rR rfl ?_
 cases hk.row kt with
 |none=>exact aU (pT rfl) (bj (pX rfl) (q _ σ ⟨0,λ s h=>j5 h,rfl⟩ (Kd _) λ yy yy=>rfl))
 |row j hj hr=>
  apply ay (by dsimp! [vo Jn])
  refine H9 (by dsimp! [P.inst,S1]) kt.inst k7 rfl (pS rfl) (ry kt hj ?_)
  cases hr with
  |prim n=>exact ay (pT rfl) (aU (λ Q q=>pT rfl _ q) (bj (pX rfl) (q _ σ ⟨0,λ s h=>j5 h,rfl⟩ (Kd _) λ yy yy=>rfl)))
  |var=>
   apply ay (pT rfl)
   apply aU (by
    intro Q q
    exact Jh (pT rfl) (Fk (f:="is_var") (by dsimp! [P.inst,S1]) (rA kt hj (sg q))))
   exact bj (pX rfl) (q _ σ ⟨0,λ s h=>j5 h,rfl⟩ (Kd _) λ yy yy=>rfl)
  |cls b a=>
   apply aU (pT rfl)
   refine dz (yW (aE (pX rfl) (gZ (pS rfl) (ru O P ?_))))
   refine zR (by dsimp!) P.inst cG rfl (pS rfl) ?_
   refine yn O P (t:=.prim a) ⟨rfl,wc hu⟩ (hs _ (.head _)) λ n hn σ' l' f'=>?_
   exact q _ σ' ⟨n,one hn,rfl⟩ (by rw [l'];exact Kt _) f'
  |lib=>
   apply aU (pT rfl)
   refine dz (yW (aE (pX rfl) (gZ (pS rfl) (yj O P λ σ1 l1 f1=>?_))))
   refine zR (by dsimp!) ((f1 _ (ac P.inst)).trans P.inst) cG rfl (pS rfl) ?_
   refine yo λ σ' l' f'=>?_
   exact q _ σ' ⟨0,λ s h=>j5 h,rfl⟩ (JT l1 (by rw [l'];exact Kt _)) λ k hk=>(f' k (JS hk l1)).trans (f1 k hk)
  |arr s e h=>
   apply ay (pT rfl)
   apply ay (by
    intro Q q
    exact Jh (pT rfl) (Fk (f:="is_var") (by dsimp! [P.inst,S1]) (rA kt hj (sg q))))
   apply ay (pT rfl)
   refine dz (yW (aE (pX rfl) (zR (by dsimp!) P.inst bX rfl (pS rfl) (eQ O P h (hs _ (.head _)) λ n hn=>?_))))
   exact q _ σ ⟨n,one hn,rfl⟩ (Kd _) λ yy yy=>rfl
noncomputable def nH:List Y:=[.set (.loc 3) (.sub (.loc 2) (.neg 1)),.for_ false [4] (.call "path_parts" [.loc 0,.loc 3]) [.ite (.cmp .notin (.loc 4) (.attr (.loc 0) "known")) [.ex (.lapp (.loc 2) (.loc 4))] []],.ite (.cmp .eq (.sub (.loc 2) (.neg 1)) (.loc 3)) [.ex (.lpop (.loc 2)),.set (.loc 5) (.call "kind_path" [.loc 0,.loc 3]),.set (.sub (.attr (.loc 0) "known") (.loc 3)) (.dsetd (.attr (.loc 0) "index") (.loc 5) (.len (.attr (.loc 0) "index")))] []]
theorem ny {x y:V}:∀{l:List (V×V)},ae l x=some y→bz l x y=l
 |[],h=>by cases h
 |(a,b)::l,h=>by
  by_cases e:a=x
  ·have h:some b=some y:=(if_pos e).symm.trans h
   have e2:bz ((a,b)::l) x y=(a,y)::l:=if_pos e
   rw [e2,Option.some.inj h]
  ·have e2:bz ((a,b)::l) x y=(a,b)::bz l x y:=if_neg e
   rw [e2,ny ((show ae ((a,b)::l) x=ae l x from if_neg e).symm.trans h)]
theorem rn {x y:V}:∀{l:List (V×V)},ae l x=none→bz l x y=l++[(x,y)]
 |[],h=>rfl
 |(a,b)::l,h=>by
  by_cases e:a=x
  ·cases (if_pos e).symm.trans h
  ·have e2:bz ((a,b)::l) x y=(a,b)::bz l x y:=if_neg e
   rw [e2,rn ((show ae ((a,b)::l) x=ae l x from if_neg e).symm.trans h)];rfl
theorem pz:cA.length=14:=by decide
theorem TP.bound {c:Cx} {σ:St} {I T:List K} (P:TP c σ I T):I.length≤14∧T.length≤14:=
 ⟨pz▸ea P.nd P.un,pz▸ea P.tnd P.tun⟩
theorem uc {α:Type} {l:List α} {a:α} (h:l.Nodup) (n:a∉l):(l++[a]).Nodup:=
 Lb.mpr ⟨h,KE.mpr ⟨Kf,KL⟩,λ x hx y hy e=>n (Ko.mp hy▸e▸hx)⟩
theorem rX {α:Type} {P:α→Prop} {l:List α} {a:α} (h:∀x∈l,P x) (p:P a):∀x∈l++[a],P x:=λ x hx=>(KY.mp hx).elim (h x) λ e=>Ko.mp e▸p
theorem gj {l:List V} {v:V}:c3 (l++[v]) (-1)=some v:=by
 unfold c3
 rw [if_neg (by decide),if_pos rfl,List.getLast?_concat]
theorem Ic {C:ak} {ρ:ax} {σ:St} {l:List Y} {r:Nat} {ob:X} {t:Tg} {base:List V} {v:V} {Q:Option V→ax→St→Prop} (ho:∀Q,Q (.ref r) σ→aH C ob ρ σ Q) (g:σ.get r=some (.list t (base++[v]))) (q:ah C l ρ (σ.put r (.list t base)) Q):ah C (.ex (.lpop ob)::l) ρ σ Q:=
 fg (ho _ (yF g rfl (Iv g List.getLast?_concat (List.dropLast_concat▸q))))
theorem H8 {C:ak} {ρ:ax} {σ σ':St} {l:List Y} {r:Nat} {v k:V} {x ob ix:X} {t:Tg} {kd:Nat} {l':List (V×V)} {Q:Option V→ax→St→Prop} (hx:∀Q,Q v σ'→aH C x ρ σ Q) (ho:∀Q,Q (.ref r) σ'→aH C ob ρ σ' Q) (hi:∀Q,Q k σ'→aH C ix ρ σ' Q) (g:σ'.get r=some (.dict t kd l')) (hk:kk kd k=true) (hl:l'.length<aN)
  (q:ah C l ρ (σ'.put r (.dict t kd (bz l' k v))) Q):ah C (.set (.sub ob ix) x::l) ρ σ Q:=hx _ (ho _ (hi _ (sn g hk hl q)))
theorem G8 {C:ak} {ρ:ax} {σ:St} {l:List Y} {f:String} {xs:List X} {vs:List V} {k:Bool} {is:List Nat} {body:List Y} {Q:Option V→ax→St→Prop} (h:∀Q,Q vs σ→aI C xs ρ σ Q)
  (q:C (.g f) vs σ λ v σ2=>cq v σ2 λ l' g=>c2 g (λ v ρ' σ2 K=>tV ρ' k is v λ ρ''=>ah C body ρ'' σ2 K) l' ρ σ2 (λ o ρ' σ'=>match o with
    |none=>ah C l ρ' σ' Q
    |some v=>Q (some v) ρ' σ')):ah C (.for_ k is (.call f xs) body::l) ρ σ Q:=gU (h _ q)
section
variable {c:Cx} {σ σ':St} {I T:List K} {t:K} {k:Int}
theorem TP.knows {l':List (V×V)} (O:c.Ok) (P:TP c σ I T) (hk:c4 c.S.rows c.o t k) (hu:t∈cA) (e3:mM (KR c) I T l') {n:Nat} {I':List K} (pr:I<+:I') (nd:I'.Nodup) (un:∀t∈I',t∈cA) (hn:I'[n]? =some t) (ix:∃l,σ'.get (c.E+2)=some (.dict aa 2 l)∧mM (cN I') I' I' l)
  (hk':σ'.get (c.pb+2)=some (.dict aa 0 (bz l' (.int k) (vi n)))) (hlen:σ.len≤σ'.len) (hf:∀k,k<c.E+9→k≠c.E+2→k≠c.pb+2→σ'.get k=σ.get k):∃T',TP c σ' I' T'∧T<+:T'∧t∈T':=by
 have look:=gk O e3 hk
 have e3':=e3.mono pr λ yy yy h=>h
 have f0:∀k,k<c.E→σ'.get k=c.σ0.get k:=λ k hk=>(hf k (Ks 9 hk) (J5 (Ks 2 hk)) (J5 (JS (Ks 3 hk) (O.E3 2)))).trans (P.same k hk)
 have f1:∀{i:Nat} {o:Mine.O},i<2→σ.get (c.pb+i)=some o→σ'.get (c.pb+i)=some o:=λ {i o} h e=>(hf _ (O.pb9 (Kr h)) (J8 (JS (Kc _) (O.E3 i))) (J5 (J0 h c.pb))).trans e
 have fin:∀T',T'.Nodup→(∀t∈T',t∈cA)→(∃l,σ'.get (c.pb+2)=some (.dict aa 0 l)∧mM (KR c) I' T' l)→TP c σ' I' T':=λ T' h1 h2 h3=>
  ⟨f0,ix,f1 (i:=0) (by decide) P.inst,f1 (by decide) P.places,h3,nd,un,h1,h2,JT P.len hlen⟩
 by_cases ht:t∈T
 ·refine (look.1 ht).elim λ m h=>⟨T,fin T P.tnd P.tun ⟨l',?_,e3'⟩,J1 _,ht⟩
  rw [←ny h.1,cw nd (ba pr h.2) hn];exact hk'
 ·exact ⟨T++[t],fin _ (uc P.tnd ht) (rX P.tun hu) ⟨_,rn (look.2 ht)▸hk',e3'.snoc ⟨k,rfl,hk⟩ hn⟩,Ku _ _,KS _ (.head _)⟩
theorem TP.lens {l:List (V×V)} {R:K→V→Prop} (P:TP c σ I T) {T':List K} (h:mM R I T' l) (hT:T'.length≤14):l.length<aN:=JV (h.len▸hT) (by decide)
end
theorem fy {d z:Nat} {c:Cx} {σ:St} {I T:List K} {t:K} {k:Int} {base:List V} {L:Option V→ax→St→Prop} {x1 x3 x4 x5:Option V} (O:c.Ok) (P:TP c σ I T) (hk:c4 c.S.rows c.o t k) (hu:t∈cA) (hs:∀s∈t.sub,s∈T) (hz:σ.get z=some (.list aa (base++[.int k]))) (hzE:c.E+9≤z)
  (q:∀I' T' σ' x3 x4 x5,TP c σ' I' T'→I<+:I'→T<+:T'→t∈T'→σ'.get z=some (.list aa base)→σ.len≤σ'.len→(∀k,k<σ.len→k≠c.E+2→k≠c.pb+2→k≠z→σ'.get k=σ.get k)→L none [some (.ref c.pb),x1,some (.ref z),x3,x4,x5] σ'):
  ah (aw (d+3)) nH [some (.ref c.pb),x1,some (.ref z),x3,x4,x5] σ L:=
 P.ix.elim λ l i=>P.kn.elim λ l' j=>by
  have hll:=P.lens i.2 P.bound.1
  have hll':=P.lens j.2 P.bound.2
  have zE:∀{k},k<c.E+9→k≠z:=λ h=>J5 (JS h hzE)
  have tail:∀x4,ah (aw (d+3)) (nH.drop 2) [some (.ref c.pb),x1,some (.ref z),some (.int k),x4,x5] σ L:=by
   intro x4
   apply aU (by dsimp! [bO hz gj,EN rfl])
   apply Ic (pX rfl) hz
   have P1:TP c (σ.put z (.list aa base)) I T:=P.frame O (J3 aj.symm) λ k hk=>aR (zE hk)
   apply dj (pS rfl)
   refine rz O P1 hk hs hu λ v s1 hv l1 f1=>?_
   have l1:σ.len≤s1.len:=JT (J3 aj.symm) l1
   have f1':∀k,k<σ.len→k≠z→s1.get k=σ.get k:=λ k a b=>(f1 k (px a)).trans (aR b)
   have g1:∀{k:Nat} {o:Mine.O},k<c.E+9→σ.get k=some o→s1.get k=some o:=λ h e=>(f1' _ (ac e) (zE h)).trans e
   have n1:=g1 (O.pb9 (i:=0) (by decide)) P.inst
   have i1:=g1 (J0 (by decide) c.E) i.1
   have j1:=g1 (O.pb9 (by decide)) j.1
   have look:=zK P.nd i.2 hv
   have hz1:s1.get z=some (.list aa base):=(f1 _ (px (ac hz))).trans (aX (ac hz))
   have np:c.pb+2≠c.E+2:=J8 (JS (Kc _) (O.E3 2))
   by_cases ht:t∈I
   ·refine (KT ht).elim λ n hn=>?_
    apply pN (v:=vi n) (by dsimp! [n1,vg i1,n1,bH i1 rfl,IN i1 hv.kk hll (look.1 n hn)]) (by dsimp! [n1]) (by dsimp!) j1 rfl hll'
    apply bE
    have f2:∀k,k≠c.pb+2→(s1.put (c.pb+2) (.dict aa 0 (bz l' (.int k) (vi n)))).get k=s1.get k:=λ k h=>aR h
    refine (TP.knows (σ':=s1.put (c.pb+2) (.dict aa 0 (bz l' (.int k) (vi n)))) O P hk hu j.2 (J1 _) P.nd P.un hn ⟨l,aA np.symm i1,i.2⟩ (aX (ac j1)) (JT l1 (J3 aj.symm)) λ k a b e=>(aR e).trans (f1' k (P.lt a) (zE a))).elim λ T' h=>?_
    exact q I T' _ _ _ _ h.1 (J1 _) h.2.1 h.2.2 (aA (zE (O.pb9 (by decide))).symm hz1) (JT l1 (J3 aj.symm)) λ k a yy e g=>(aR e).trans (f1' k a g)
   ·have hE:=ac i1
    have np':c.pb≠c.E+2:=J8 (JS (Kc _) (O.E3 0))
    have n2:=aA (n:=c.E+2) (o:=.dict aa 2 (l++[(v,.int l.length)])) np' n1
    have j2:=aA (n:=c.E+2) (o:=.dict aa 2 (l++[(v,.int l.length)])) np j1
    apply H8 (v:=vi l.length) (σ':=s1.put (c.E+2) (.dict aa 2 (l++[(v,.int l.length)]))) (by dsimp! [n1,vg i1,n1,bH i1 rfl,IO i1 hv.kk hll (look.2 ht)]) (by dsimp! [n2]) (by dsimp!) j2 rfl hll'
    apply bE
    have pr:I<+:I++[t]:=Ku _ _
    have hn:(I++[t])[l.length]? =some t:=by rw [i.2.len];exact Kg
    refine (TP.knows (σ':=(s1.put (c.E+2) (.dict aa 2 (l++[(v,.int l.length)]))).put (c.pb+2) (.dict aa 0 (bz l' (.int k) (vi l.length)))) O P hk hu j.2 pr (uc P.nd ht) (rX P.un hu) hn ⟨_,aA np.symm (aX hE),(i.2.mono pr λ yy yy h=>h.mono pr).snoc (hv.mono pr) hn⟩ (aX (ac j2)) (JT l1 (J3 (aj.trans aj).symm)) λ k a b e=>(aR e).trans ((aR b).trans (f1' k (P.lt a) (zE a)))).elim λ T' h=>?_
    exact q _ T' _ _ _ _ h.1 pr h.2.1 h.2.2 (aA (zE (O.pb9 (by decide))).symm (aA (zE (J0 (by decide) c.E)).symm hz1)) (JT l1 (J3 (aj.trans aj).symm)) λ k a b e g=>(aR e).trans ((aR b).trans (f1' k a g))
  apply br (by dsimp! [bO hz gj])
  refine G8 (pS rfl) (uF O P hk hu λ ps h=>mi ?_)
  cases h with
  |nil=>exact ⟨trivial,tail _⟩
  |one s e h1 h2=>
   refine ((gk O j.2 h2).1 (hs s (h1▸.head _))).elim λ n h=>⟨trivial,?_⟩
   apply ay (by dsimp! [P.inst,n9,rb j.1 rfl (congrArg Option.isSome h.1)])
   exact bE ⟨trivial,tail _⟩
theorem K.arr_ne:∀s:K,K.arr s≠s
 | .arr s,h=>K.arr_ne s (K.arr.inj h)
 | .none,h=>by cases h
 | .prim _,h=>by cases h
 | .var,h=>by cases h
 | .cls _ _,h=>by cases h
 | .lib,h=>by cases h
theorem K.sub_ne {t:K} (h:t.sub=[t]):False:=by
 cases t with
 |cls b a=>cases h
 |arr s=>exact K.arr_ne s (Lo h).1.symm
 |_=>cases h
theorem sL {d z:Nat} {c:Cx} {σ:St} {I T:List K} {t s:K} {k:Int} {base:List V} {L:Option V→ax→St→Prop} {x1 x3 x4 x5:Option V} (O:c.Ok) (P:TP c σ I T) (hk:c4 c.S.rows c.o t k) (hu:t∈cA) (hs:t.sub=[s]) (hsT:s∉T) (hz:σ.get z=some (.list aa (base++[.int k]))) (hzE:c.E+9≤z) (hb:base.length<100)
  (q:∀(e:Int) σ' x3 x4 x5,TP c σ' I T→c4 c.S.rows c.o s e→σ'.get z=some (.list aa (base++[.int k]++[.int e]))→σ.len≤σ'.len→(∀k,k<σ.len→k≠z→σ'.get k=σ.get k)→L none [some (.ref c.pb),x1,some (.ref z),x3,x4,x5] σ'):
  ah (aw (d+3)) nH [some (.ref c.pb),x1,some (.ref z),x3,x4,x5] σ L:=
 P.kn.elim λ l' j=>by
  apply br (by dsimp! [bO hz gj])
  refine G8 (pS rfl) (uF O P hk hu λ ps h=>mi ?_)
  cases h with
  |nil h=>rw [hs] at h;cases h
  |one s' e h1 h2=>
   have es:s=s':=(Lo (hs.symm.trans h1)).1
   subst es
   have h3:=(gk O j.2 h2).2 hsT
   refine ⟨trivial,?_⟩
   apply aU (by dsimp! [P.inst,n9,rb j.1 rfl (congrArg Option.isSome h3)])
   apply cJ (by dsimp!) hz (by dsimp!) (by rw [List.length_append];exact JS (Kv hb 1) (by decide))
   refine bE ⟨trivial,?_⟩
   have hz':(σ.put z (.list aa (base++[.int k]++[.int e]))).get z=some (.list aa (base++[.int k]++[.int e])):=aX (ac hz)
   have hne:(e:Int)≠k:=λ e'=>K.sub_ne (hs.trans (congrArg (λ s=>[s]) (c4.inj O.C.kt O.ok (e'▸h2) hk)))
   apply ay (by dsimp! [bO hz' gj,vo hne])
   apply bE
   exact q e _ _ _ _ (P.frame O (J3 aj.symm) λ k hk=>aR (J5 (JS hk hzE))) h2 hz' (J3 aj.symm) λ k yy b=>aR b
structure LP (c:Cx) (σ:St) (I T:List K) (t:K) (z:Nat) (base:List V) (σ':St) (I' T':List K):Prop where
 P:TP c σ' I' T'
 i:I<+:I'
 tt:T<+:T'
 m:t∈T'
 g:σ'.get z=some (.list aa base)
 len:σ.len≤σ'.len
 fr:∀k,k<σ.len→k≠c.E+2→k≠c.pb+2→k≠z→σ'.get k=σ.get k
noncomputable def LW (d N:Nat) (c:Cx) (z:Nat) (x1 x3 x4 x5:Option V) (σ:St) (Q:Option V→ax→St→Prop):Prop:=ik (fe (aw (d+3)) (.loc 2)) (ah (aw (d+3)) nH) N [some (.ref c.pb),x1,some (.ref z),x3,x4,x5] σ Q
theorem za (base:List V) (v:V):(base++[v]).isEmpty=false:=by cases base<;>rfl
theorem gh {d N z:Nat} {c:Cx} {σ:St} {base:List V} {v:V} {x1 x3 x4 x5:Option V} {Q:Option V→ax→St→Prop} (hz:σ.get z=some (.list aa (base++[v])))
  (h:ah (aw (d+3)) nH [some (.ref c.pb),x1,some (.ref z),x3,x4,x5] σ (λ o ρ' σ'=>match o with
   |some y=>Q (some y) ρ' σ'
   |none=>ik (fe (aw (d+3)) (.loc 2)) (ah (aw (d+3)) nH) N ρ' σ' Q)):LW d (N+1) c z x1 x3 x4 x5 σ Q:=
 Fe (λ yy q=>Fm hz (congrArg (λ b=>some (!b)) (za base v)) q) h
noncomputable def K.dep:K→Nat
 | .arr t=>t.dep+1
 | .cls _ _=>1
 |_=>0
noncomputable def LT (d:Nat) (t:K):Prop:=∃m,∀(c:Cx) (σ:St) (I T:List K) (base:List V) (k:Int) (z N:Nat) (x1 x3 x4 x5:Option V) (Q:Option V→ax→St→Prop),c.Ok→TP c σ I T→c4 c.S.rows c.o t k→σ.get z=some (.list aa (base++[.int k]))→c.E+9≤z→base.length+t.dep<90→
  (∀N',N≤N'→∀I' T' σ' x3 x4 x5,LP c σ I T t z base σ' I' T'→LW d N' c z x1 x3 x4 x5 σ' Q)→LW d (N+m) c z x1 x3 x4 x5 σ Q
theorem dG {d:Nat} {t:K} (h:t.sub=[]) (hu:t∈cA):LT d t:=
 ⟨1,λ c σ I T base k z N x1 x3 x4 x5 Q O P hk hz hzE hb q=>gh hz (fy O P hk hu (h▸λ yy h=>absurd h Kf) hz hzE λ I' T' σ' x3 x4 x5 a1 a2 a3 a4 a5 a6 a7=>q N (Kd _) I' T' σ' x3 x4 x5 ⟨a1,a2,a3,a4,a5,a6,a7⟩)⟩
theorem kQ {d:Nat} {t s:K} (h:t.sub=[s]) (hd:t.dep=s.dep+1) (hu:t∈cA) (ih:LT d s):LT d t:=ih.elim λ m hm=>
 ⟨1+m+1,λ c σ I T base k z N x1 x3 x4 x5 Q O P hk hz hzE hb q=>by
  have one:∀{T:List K},s∈T→∀s'∈t.sub,s'∈T:=λ e s' hs'=>Ko.mp (h▸hs')▸e
  by_cases hT:s∈T
  ·exact gh (N:=N+(1+m)) hz (fy O P hk hu (one hT) hz hzE λ I' T' σ' x3 x4 x5 a1 a2 a3 a4 a5 a6 a7=>q _ (JU _ _) I' T' σ' x3 x4 x5 ⟨a1,a2,a3,a4,a5,a6,a7⟩)
  ·refine gh (N:=N+(1+m)) hz (sL O P hk hu h hT hz hzE (JV (JU _ _) (JY hb (by decide))) λ e σ1 x3 x4 x5 P1 hs1 hz1 l1 f1=>?_)
   show LW d (N+(1+m)) c z x1 x3 x4 x5 σ1 Q
   rw [←Nat.add_assoc]
   refine hm c σ1 I T (base++[.int k]) e z (N+1) x1 x3 x4 x5 Q O P1 hs1 hz1 hzE (by rw [List.length_append,Nat.add_right_comm];rw [hd] at hb;exact hb) λ N' hN I2 T2 σ2 x3 x4 x5 h2=>?_
   cases N' with
   |zero=>exact absurd hN (K6 _)
   |succ N'=>
    exact gh h2.g (fy O h2.P hk hu (one h2.m) h2.g hzE λ I' T' σ' x3 x4 x5 a1 a2 a3 a4 a5 a6 a7=>q _ (K0 hN) I' T' σ' x3 x4 x5
     ⟨a1,h2.i.trans a2,h2.tt.trans a3,a4,a5,JT l1 (JT h2.len a6),λ k b1 b2 b3 b4=>(a7 k (JS b1 (JT l1 h2.len)) b2 b3 b4).trans ((h2.fr k (JS b1 l1) b2 b3 b4).trans (f1 k b1 b4))⟩)⟩
theorem nj {d:Nat}:∀t:K,t∈cA→LT d t
 | .cls b a,hu=>kQ rfl rfl hu (dG rfl (py _ hu _ (.head _)))
 | .arr t,hu=>kQ rfl rfl hu (nj t (py _ hu _ (.head _)))
 | .none,hu=>dG rfl hu
 | .prim _,hu=>dG rfl hu
 | .var,hu=>dG rfl hu
 | .lib,hu=>dG rfl hu
theorem vZ:∀t∈cA,t.dep<90:=by decide
theorem zW {d:Nat} {c:Cx} {σ:St} {I T:List K} {t:K} {k:Int} {Q:V→St→Prop} (O:c.Ok) (P:TP c σ I T) (hk:c4 c.S.rows c.o t k) (hu:t∈cA)
  (q:∀I' T' σ',TP c σ' I' T'→I<+:I'→T<+:T'→t∈T'→AZ c σ σ'→Q .none σ'):aw (d+4) (.g "learn_kind") [.ref c.pb,.int k] σ Q:=by
 refine go oX rfl ?_
 apply setN (σ':=σ.new (.list aa [.int k])) (v:=.ref σ.len) (λ Q q=>kL (vs:=[.int k]) (pS rfl) q)
 refine wu ((nj (d:=d) t hu).imp' (1+·) λ m hm=>?_)
 have P1:TP c (σ.new (.list aa [.int k])) I T:=P.frame O (Kb aQ) λ k hk=>aP (P.lt hk)
 refine hm c _ I T [] k σ.len 1 _ _ _ _ _ O P1 hk be P.len (by rw [List.length_nil,Nat.zero_add];exact vZ t hu) λ N' hN I' T' σ' x3 x4 x5 h=>?_
 cases N' with
 |zero=>exact absurd hN (K6 _)
 |succ N'=>
  refine Ff (λ yy q=>Fm h.g rfl q) (bE (q I' T' σ' h.P h.i h.tt h.m ⟨JT (Kb aQ) h.len,λ k h1 h2 h3=>(h.fr k (JY h1 aQ) h2 h3 (J5 h1)).trans (aP h1)⟩))
noncomputable def TZ (c:Cx) (σ:St) (I:List K):Prop:=∃T,TP c σ I T
structure TX (c:Cx) (σ:St) (I:List K) (σ':St) (I':List K):Prop where
 P:TZ c σ' I'
 i:I<+:I'
 fr:AZ c σ σ'
theorem TX.rfl' {c:Cx} {σ:St} {I:List K} (P:TZ c σ I):TX c σ I σ I:=⟨P,J1 _,.rfl'⟩
theorem TX.trans {c:Cx} {σ σ' σ'':St} {I I' I'':List K} (a:TX c σ I σ' I') (b:TX c σ' I' σ'' I''):TX c σ I σ'' I'':=⟨b.P,a.i.trans b.i,a.fr.trans b.fr⟩
noncomputable def HS (c:Cx) (σ:St) (I:List K) (F:(K→Nat)→V) (Q:V→St→Prop):Prop:=∀v I' σ',TX c σ I σ' I'→(∀num,Ag num I'→v=F num)→Q v σ'
noncomputable def TF (c:Cx) (D:Nat) (f:Fn) (vs:List V) (F:(K→Nat)→V):Prop:=∀σ I (Q:V→St→Prop),TZ c σ I→HS c σ I F Q→aw D f vs σ Q
theorem dy {d:Nat} {c:Cx} {t:K} {k:Int} (O:c.Ok) (hk:c4 c.S.rows c.o t k) (hu:t∈cA):TF c (d+5) (.m "Paths" "kind") [.ref c.pb,.int k] λ num=>vi (num t):=λ σ I Q P q=>
 P.elim λ T P=>P.kn.elim λ l h=>by
  have look:=gk O h.2 hk
  by_cases ht:t∈T
  ·exact eQ O P hk ht λ n hn=>q _ I σ (.rfl' ⟨T,P⟩) λ num a=>congrArg vi (a n t hn).symm
  ·refine go iS rfl ?_
   apply aU (by dsimp! [P.inst,n9,rb h.1 rfl (congrArg Option.isSome (look.2 ht))])
   apply yG (pS rfl)
   refine zW O P hk hu λ I' T' σ' P' i' t' m' fr=>P'.kn.elim λ l' h'=>((gk O h'.2 hk).1 m').elim λ n e=>?_
   exact bj (by dsimp! [P'.inst,BE h'.1 rfl e.1]) (q _ I' σ' ⟨⟨T',P'⟩,i',fr⟩ λ num a=>congrArg vi (a n t e.2).symm)
section
variable {c:Cx} {C:ak} {ρ:ax} {x:X} {xs:List X} {D:Nat} {F:(K→Nat)→V} {Fs:(K→Nat)→List V} {v:V} {vs:List V}
noncomputable def TE (c:Cx) (C:ak) (ρ:ax) (x:X) (F:(K→Nat)→V):Prop:=∀σ I (Q:V→St→Prop),TZ c σ I→HS c σ I F Q→aH C x ρ σ Q
noncomputable def bD (c:Cx) (C:ak) (ρ:ax) (xs:List X) (Fs:(K→Nat)→List V):Prop:=∀σ I (Q:List V→St→Prop),TZ c σ I→(∀vs I' σ',TX c σ I σ' I'→(∀num,Ag num I'→vs=Fs num)→Q vs σ')→aI C xs ρ σ Q
theorem bD.nil:bD c C ρ [] λ yy=>[]:=λ σ I Q P q=>q [] I σ (.rfl' P) λ yy yy=>rfl
theorem bD.cons (h:TE c C ρ x F) (hs:bD c C ρ xs Fs):bD c C ρ (x::xs) λ num=>F num::Fs num:=λ σ I Q P q=>
 h σ I _ P λ v I1 σ1 X1 e1=>hs σ1 I1 _ X1.P λ vs I2 σ2 X2 e2=>q (v::vs) I2 σ2 (X1.trans X2) λ num a=>by rw [e1 num (a.mono X2.i),e2 num a]
theorem TE.tup (h:bD c C ρ xs Fs):TE c C ρ (.tup xs) λ num=>.tup (Fs num):=λ σ I Q P q=>
 h σ I (λ vs σ=>Q (.tup vs) σ) P λ vs I1 σ1 X1 e1=>q _ I1 σ1 X1 λ num a=>congrArg V.tup (e1 num a)
theorem TE.pure (h:∀σ I T,TP c σ I T→∀Q,Q v σ→aH C x ρ σ Q):TE c C ρ x λ yy=>v:=λ σ I Q P q=>P.elim λ T P'=>h σ I T P' Q (q v I σ (.rfl' P) λ yy yy=>rfl)
theorem TE.call {f:String} (h:∀σ I T,TP c σ I T→∀Q,Q vs σ→aI (aw D) xs ρ σ Q) (k:TF c D (.g f) vs F):TE c (aw D) ρ (.call f xs) F:=λ σ I Q P q=>P.elim λ T P'=>h σ I T P' (λ vs σ1=>aw D (.g f) vs σ1 Q) (k σ I Q P q)
theorem TE.meth {n:String} {ob:X} (ho:∀σ Q,Q (.ref c.pb) σ→aH (aw D) ob ρ σ Q) (hn:("Paths",n)∈mzz) (ha:cu [("store",V.ref c.p),("places",.ref (c.pb+1)),("index",.ref (c.E+2)),("known",.ref (c.pb+2))] n=none) (h:∀σ I T,TP c σ I T→∀Q,Q vs σ→aI (aw D) xs ρ σ Q) (k:TF c D (.m "Paths" n) (.ref c.pb::vs) F):TE c (aw D) ρ (.meth ob n xs) F:=λ σ I Q P q=>
 P.elim λ T P'=>jr (ho σ) P'.inst hn ha (h σ I T P' _ (k σ I Q P q))
theorem TE.ret {σ:St} {I:List K} {l:List Y} {Q:Option V→ax→St→Prop} (P:TZ c σ I) (q:HS c σ I F (λ v σ1=>Q (some v) ρ σ1)) (h:TE c C ρ x F):ah C (.ret x::l) ρ σ Q:=dz (h σ I _ P q)
theorem TF.ret {f:Fn} {ps vars:List String} {b:List Y} (hb:ag f=some (ps,vars,b)) (hl:vs.length=ps.length) {x:X} (he:b=[.ret x]) (h:TE c (aw D) (vs.map some++List.replicate (vars.length - ps.length) none) x F):TF c (D+1) f vs F:=λ σ I Q P q=>by
 subst he
 exact go hb hl (dz (h σ I _ P λ v I' σ' X e=>q v I' σ' X e))
theorem TP.new {σ σ':St} {I T:List K} (O:c.Ok) (P:TP c σ I T) (hl:σ.len≤σ'.len) (h:∀k,k<σ.len→σ'.get k=σ.get k):TP c σ' I T:=P.frame O hl λ k hk=>h k (P.lt hk)
theorem TX.new {σ σ' σ'':St} {I I':List K} (O:c.Ok) (a:TX c σ I σ' I') (hl:σ'.len≤σ''.len) (h:∀k,k<σ'.len→σ''.get k=σ'.get k):TX c σ I σ'' I':=
 ⟨a.P.imp λ T P=>P.new O hl h,a.i,⟨JT a.fr.len hl,λ k h1 h2 h3=>(h k (JS h1 a.fr.len)).trans (a.fr.get k h1 h2 h3)⟩⟩
theorem aS.uncons {α β:Type} {P:α→β→Prop} {a:α} {b:β} {l:List α} {r:List β} (h:aS P (a::l) (b::r)):P a b∧aS P l r:=⟨h.2 0 a b rfl rfl,Lq h.1,λ i x y hx hy=>h.2 (i+1) x y hx hy⟩
theorem nD {α:Type} {P:α→V→Prop} {G:α→(K→Nat)→V} {guard:St→Prop} {f:V→St→(Option V→St→Prop)→Prop}
  (hg:∀σ I,TZ c σ I→guard σ) (step:∀a v,P a v→∀s I (L:Option V→St→Prop),TZ c s I→HS c s I (G a) (λ w σ'=>L (some w) σ')→f v s L):
  ∀{as:List α} {vs acc:List V} {σ:St} {I:List K} {Q:List V→St→Prop},aS P as vs→TZ c σ I→(∀ws I' σ',TX c σ I σ' I'→(∀num,Ag num I'→ws=as.map λ a=>G a num)→Q (acc++ws) σ')→er guard f vs acc σ Q
 |[],[],acc,σ,I,Q,h,p,q=>⟨hg σ I p,by rw [←List.append_nil acc];exact q [] I σ (.rfl' p) λ yy yy=>rfl⟩
 |[],_::_,_,_,_,_,h,_,_=>by cases h.1
 |_::_,[],_,_,_,_,h,_,_=>by cases h.1
 |a::as,v::vs,acc,σ,I,Q,h,p,q=>⟨hg σ I p,step a v h.uncons.1 σ I _ p λ w I1 σ1 X1 e1=>nD hg step h.uncons.2 X1.P λ ws I2 σ2 X2 e2=>by
   rw [List.append_assoc]
   exact q (w::ws) I2 σ2 (X1.trans X2) λ num a=>by rw [e1 num (a.mono X2.i),e2 num a];rfl⟩
theorem TE.comp {α:Type} {P:α→V→Prop} {G:α→(K→Nat)→V} {guard:St→Prop} {elt it:X} {caps:List Nat} {k:Bool} {n:Nat} {as:List α} (O:c.Ok) (hi:∀σ I T,TP c σ I T→∀Q,Q vs guard σ→vf C it ρ σ Q) (hg:∀σ I T,TP c σ I T→guard σ) (h:aS P as vs)
  (step:∀a v,P a v→∀K':ax→Prop,(∀ρ',TE c C ρ' elt (G a)→K' ρ')→tV (caps.map (bK ρ)++List.replicate n none) k (List.range' caps.length n) v K'):TE c C ρ (.tupleOf (.comp elt caps k n it [])) λ num=>.tup (as.map λ a=>G a num):=λ σ I Q P q=>P.elim λ T P'=>
 hi σ I T P' _ (nD (λ σ I P=>P.elim λ T P=>hg σ I T P) (λ a v pa s I1 L P1 hL=>step a v pa _ λ ρ' he=>he s I1 _ P1 hL) h P λ ws I' σ' X e=>by
  apply nS be rfl
  exact q _ I' _ (X.new O (Kb aQ) λ k hk=>aP hk) λ num a=>congrArg V.tup (e num a))
end
theorem aS.inn {α β:Type} {P:α→β→Prop} {l:List α} {r:List β} (h:aS P l r):aS (λ a b=>P a b∧a∈l) l r:=⟨h.1,λ i a b ha hb=>⟨h.2 i a b ha hb,Kh ha⟩⟩
theorem aS.cons {α β:Type} {P:α→β→Prop} {a:α} {b:β} {l:List α} {r:List β} (p:P a b) (h:aS P l r):aS P (a::l) (b::r):=⟨congrArg (· +1) h.1,λ i x y hx hy=>by
 cases i with
 |zero=>cases hx;cases hy;exact p
 |succ i=>exact h.2 i x y hx hy⟩
theorem gc {d:Nat} {c:Cx} {as:List K} {vs:List V} (O:c.Ok) (h:aS (KR c) as vs) (hu:∀t∈as,t∈cA):TF c (d+6) (.m "Paths" "kinds") [.ref c.pb,.tup vs] λ num=>.tup (as.map λ t=>vi (num t)):=
 TF.ret cV rfl rfl (TE.comp (G:=λ t num=>vi (num t)) (guard:=λ yy=>True) O (λ σ I T P Q q=>mi q) (λ yy yy yy yy=>trivial) h.inn λ a v pa K' hK=>by
  obtain ⟨⟨k,rfl,hk⟩,ha⟩:=pa
  exact hK _ (TE.meth (λ σ Q q=>q) bX rfl (λ yy yy yy yy=>pS rfl) (dy O hk (hu a ha))))
theorem kT {c:Cx}:∀{ps:List String} {ks:List Nat},dN c.S.rows c.o ps ks→aS (KR c) (ps.map aT) (ks.map vi)
 |[],[],_=>.nil
 |p::ps,k::ks,h=>.cons ⟨k,rfl,h.1⟩ (kT h.2)
 |[],_::_,h=>h.elim
 |_::_,[],h=>h.elim
theorem oN {α:Type} {d z k:Nat} {t:Tg} {f:α→V} {l:List α} {a:α} {s:String} {σ:St} {Q:V→St→Prop} (hz:σ.get z=some (.list t (l.map f))) (h:l[k]? =some a) (h0:0<k) (q:Q (f a) σ):aw (d+1) (.g "standing") [.ref z,.int k,.str s] σ Q:=by
 refine go lM rfl ?_
 apply ay (by dsimp! [Iw (Int.not_le.mpr (Int.ofNat_lt.mpr h0)),hz,HP (j6 h)])
 exact bj (by dsimp! [bp hz h]) q
noncomputable def tN (num:K→Nat) (r:Mr):V:=.tup [.str r.nm,.int r.g,.int r.s,.int (num (aT r.ret)),.tup ((r.ps.map aT).map λ t=>.int (num t:Nat))]
noncomputable def ek (num:K→Nat) (x:cM):V:=.tup [.tup [.int (bn x.t:Nat)],tN num x.r]
theorem A7 {α:Type} {l:List (Option α)} {k:Nat} {a:α} (h0:l[0]? =some none) (h:l[k]? =some (some a)):0<k:=Nat.pos_of_ne_zero λ e=>by
 rw [e,h0] at h;cases h
theorem Hr:∀{n:Nat},n≤1→n &&& 1=n
 |0,_=>rfl
 |1,_=>rfl
 |n+2,h=>absurd h (K6 _∘K0)
section
variable {d lo mid fid:Nat} {k:Int} {c:Cx} {t:Bool} {r:Mr} {b:V}
theorem wj (O:c.Ok) (M:MF c.σ0 c.S c.o lo t r mid b) (ok:r.ok):TF c (d+7) (.g "method_name") [.ref c.pb,.int mid] λ num=>tN num r:=λ σ I Q P q=>
 M.el λ n gn gb ret ks h1 h2 h3 h4 h5 h6 h7 h8 h9=>P.elim λ T P'=>by
  have hm:=A7 O.z.2.2 h1
  refine go mD rfl ?_
  apply ay (by dsimp! [vo (i0 (Nat.ne_of_gt hm))])
  apply dj (by dsimp! [P'.inst,P'.get O O.C.inst])
  refine oN (P'.get O O.C.mzz) h1 hm ?_
  apply ay (pT rfl)
  refine TE.ret P q (TE.tup (bD.cons (TE.pure (v:=.str r.nm) λ σ I T P=>(by dsimp! [P.get O h5])) (bD.cons (TE.pure (v:=vi r.g) λ σ I T P=>(by dsimp! [P.get O h5])) (bD.cons (TE.pure (v:=vi r.s) λ σ I T P Q q=>cj (P.get O h5) rfl ⟨Kp _,(by decide:(0:Int)≤1),(show Q (vi (r.s &&& 1)) σ from (Hr ok.2.2.1).symm▸q)⟩)
   (bD.cons (TE.meth (λ σ Q q=>q) bX rfl (λ σ I T P=>(by dsimp! [P.get O h5])) (dy O h8 (bN _ ok.2.2.2.1))) (bD.cons (TE.meth (vs:=[.tup (ks.map vi)]) (λ σ Q q=>q) cG rfl (λ σ I T P=>(by dsimp! [P.get O h5])) (gc O (kT h9) λ s hs=>(KB.mp hs).elim λ p h=>h.2▸bN _ (ok.2.2.2.2.1 p h.1))) bD.nil))))))
theorem yY (O:c.Ok) (b:Bool):TF c (d+1) (.g "type_path") [.ref c.pb,.int (c.o.t b)] λ yy=>.tup [.int (bn b:Nat)]:=λ σ I Q P q=>P.elim λ T P'=>ru O P' (q _ I σ (.rfl' P) λ yy yy=>rfl)
theorem wk {x:cM} (O:c.Ok) (M:MF c.σ0 c.S c.o lo x.t x.r mid b) (ok:x.r.ok):TF c (d+8) (.g "member_name") [.ref c.pb,.int mid] λ num=>ek num x:=λ σ I Q P q=>
 M.el λ n gn gb ret ks h1 h2 h3 h4 h5 h6 h7 h8 h9=>P.elim λ T P'=>by
  have hm:=A7 O.z.2.2 h1
  refine go gS rfl ?_
  apply ay (by dsimp! [vo (i0 (Nat.ne_of_gt hm))])
  apply dj (by dsimp! [P'.inst,P'.get O O.C.inst])
  refine oN (P'.get O O.C.mzz) h1 hm ?_
  apply br (v:=vi (c.o.t x.t)) (by
   intro Q q
   apply xG (pT rfl)
   simp_all! [(P'.get O h5)])
  exact TE.ret P q (TE.tup (bD.cons (TE.call (λ yy yy yy yy=>pS rfl) (yY O x.t)) (bD.cons (TE.call (λ yy yy yy yy=>pS rfl) (wj O M ok)) bD.nil)))
theorem ki:TF c (d+1) (.g "member_name") [.ref c.pb,.int 0] λ yy=>.tup []:=λ σ I Q P q=>go gS rfl (aU (pT rfl) (bj (pX rfl) (q _ I σ (.rfl' P) λ yy yy=>rfl)))
noncomputable def Ju (num:K→Nat) (ow:K) (r:Fr):V:=.tup [.int (num ow),.str r.nm,.int (num (aT r.tm))]
theorem yZ {r:Fr} {ow:K} (O:c.Ok) (F:FF c.σ0 c.S c.o lo t r fid) (ok:r.ok) (hk:c4 c.S.rows c.o ow k) (hu:ow∈cA):TF c (d+6) (.g "field_path") [.ref c.pb,.tup [.int k,.int fid]] λ num=>Ju num ow r:=λ σ I Q P q=>
 F.elim λ n h=>h.elim λ kd h=>P.elim λ T P'=>by
  refine go o6 rfl ?_
  apply dj (by dsimp! [P'.inst,P'.get O O.C.inst,dO rfl])
  refine oN (P'.get O O.C.flds) h.1 (A7 O.z.2.1 h.1) ?_
  apply ay (pT rfl)
  exact TE.ret P q (TE.tup (bD.cons (TE.meth (λ σ Q q=>q) bX rfl (λ yy yy yy yy=>pS rfl) (dy O hk hu)) (bD.cons (TE.pure (v:=.str r.nm) λ σ I T P=>(by dsimp! [P.get O h.2.2.2.1])) (bD.cons (TE.meth (λ σ Q q=>q) bX rfl (λ σ I T P=>(by dsimp! [P.get O h.2.2.2.1])) (dy O h.2.2.2.2 (bN _ ok))) bD.nil))))
noncomputable def zC (num:K→Nat) (ow:K) (r:Mr) (as:List K):V:=.tup [.int (num ow),tN num r,.tup (as.map λ t=>.int (num t:Nat))]
theorem tW {as:List K} {vs:List V} {ow:K} (O:c.Ok) (M:MF c.σ0 c.S c.o lo t r mid b) (ok:r.ok) (hk:c4 c.S.rows c.o ow k) (hu:ow∈cA) (h:aS (KR c) as vs) (hus:∀t∈as,t∈cA):TF c (d+8) (.g "method_path") [.ref c.pb,.tup [.int k,.int mid,.tup vs]] λ num=>zC num ow r as:=λ σ I Q P q=>by
 refine go mC rfl (bq ⟨rfl,?_⟩)
 show ah (aw (d+7)) [_] [some (.ref c.pb),some (.tup [.int k,.int mid,.tup vs]),some (.int k),some (.int mid),some (.tup vs)] σ _
 exact TE.ret P q (TE.tup (bD.cons (TE.meth (λ σ Q q=>q) bX rfl (λ yy yy yy yy=>pS rfl) (dy O hk hu)) (bD.cons (TE.call (λ yy yy yy yy=>pS rfl) (wj O M ok)) (bD.cons (TE.meth (λ σ Q q=>q) cG rfl (λ yy yy yy yy=>pS rfl) (gc O h hus)) bD.nil))))
end
theorem aS.map {α β:Type} {f:α→β}:∀{l:List α},aS (λ a v=>v=f a) l (l.map f)
 |[]=>.nil
 |_::_=>.cons rfl aS.map
noncomputable def fT (num:K→Nat) (r:Fr):V:=.tup [.str r.nm,.int (num (aT r.tm)),.int 6,.int 0,.none]
section
variable {d lo:Nat} {c:Cx}
theorem TE.set {C:ak} {ρ:ax} {x:X} {F:(K→Nat)→V} {i:Nat} {σ:St} {I:List K} {l:List Y} {Q:Option V→ax→St→Prop} (P:TZ c σ I) (h:TE c C ρ x F) (q:∀v I' σ',TX c σ I σ' I'→(∀num,Ag num I'→v=F num)→ah C l (d9 ρ i v) σ' Q):ah C (.set (.loc i) x::l) ρ σ Q:=h σ I _ P q
theorem y5 {fid:Nat} {t:Bool} {r:Fr} (O:c.Ok) (F:FF c.σ0 c.S c.o lo t r fid) (ok:r.ok):TF c (d+6) (.g "field_told") [.ref c.pb,.int fid] λ num=>fT num r:=λ σ I Q P q=>
 F.elim λ n h=>h.elim λ kd h=>P.elim λ T P'=>by
  refine go oZ rfl ?_
  apply br (v:=.ref n) (by dsimp! [P'.inst,P'.get O O.C.inst,bp (P'.get O O.C.flds) h.1])
  exact TE.ret P q (TE.tup (bD.cons (TE.pure (v:=.str r.nm) λ σ I T P=>(by dsimp! [P.get O h.2.2.2.1])) (bD.cons (TE.meth (λ σ Q q=>q) bX rfl (λ σ I T P=>(by dsimp! [P.get O h.2.2.2.1])) (dy O h.2.2.2.2 (bN _ ok)))
   (bD.cons (TE.pure (v:=.int 6) λ σ I T P=>(by dsimp! [P.get O h.2.2.2.1])) (bD.cons (TE.pure (v:=.int 0) λ σ I T P=>(by dsimp! [P.get O h.2.2.2.1])) (bD.cons (TE.pure (v:=.none) λ σ I T P=>(by dsimp! [P.get O h.2.2.2.1])) bD.nil))))))
theorem pI {z:Nat} {us:List String} (O:c.Ok) (hz:c.σ0.get z=some (.list aa (us.map λ yy=>.tup [.int 0,.tup []]))):TF c (d+7) (.g "bound_rows") [.ref c.pb,.ref z] λ num=>.tup (us.map λ yy=>.tup [.int 0,.tup []]):=
 TF.ret o9 rfl rfl (TE.comp (P:=λ (_:String) v=>v=.tup [.int 0,.tup []]) (G:=λ yy yy=>.tup [.int 0,.tup []]) O (λ σ I T P Q q=>gu (P.get O hz) q) (λ σ I T P=>P.get O hz) aS.map λ a v pa K' hK=>by
  subst pa
  exact hK _ (TE.tup (bD.cons (TE.pure (v:=.int 0) λ yy yy yy yy=>pX rfl) (bD.cons (TE.meth (vs:=[.tup []]) (λ σ Q q=>q) cG rfl (λ yy yy yy yy=>pS rfl) (gc O .nil λ t h=>absurd h Kf)) bD.nil))))
theorem Ij:EG.lookup 123=some 8∧EG.lookup 40=some 9∧EG.lookup 42=some 0:=by decide
theorem IV {op s:Int} {σ:St} {Q:V→St→Prop} (h:EG.lookup op=some s) (q:Q (.int s) σ):aw (d+1) (.g "op_sort") [.int op] σ Q:=
 go vC rfl (bj (v:=.int ((EG.lookup op).getD (-1))) (λ Q q=>JJ (IP q)) (by rw [h];exact q))
noncomputable def uO (num:K→Nat):Option Cd→V
 |none=>.tup [.int 42,.int 0]
 |some (.f t a r)=>.tup [.int 123,Ju num (.cls t (ka a)) r]
 |some (.m t a r)=>.tup [.int 40,zC num (.cls t (ka a)) r (List.replicate r.g (.prim 7))]
structure Ld (c:Cx) (nl:List (V×V)) (lo hb:Nat) (d:De):Prop where
 F:∀t,∀r∈d.f t,FF c.σ0 c.S c.o lo t r (fN nl t r)
 M:∀t,∀r∈d.m t,MF c.σ0 c.S c.o lo t r (mN nl t r) (if (⟨t,r⟩:cM)=d.held then .ref hb else .none)
 ok:d.ok
theorem De.ok.fr {d:De} (ok:d.ok):∀t,∀r∈d.f t,r.ok
 |false=>ok.f0.2.2.2
 |true=>ok.f1.2.2.2
noncomputable def Hw (c:Cx) (nl:List (V×V)) (de:De):Option Cd→V→Prop
 |none,v=>v=.tup [.int 42,.int 0]
 |some cd,v=>Ai c.S.rows c.o nl cd v∧cd.ok de.f0 de.f1 de.m0 de.m1
noncomputable def Ji:X:=.call "operand_path" [.loc 0,.call "op_sort" [.sub (.loc 1) (.int 0)],.sub (.loc 1) (.int 1)]
theorem TE.opnd {op s:Int} {w:V} {F:(K→Nat)→V} (h:EG.lookup op=some s) (k:TF c (d+1) (.g "operand_path") [.ref c.pb,.int s,w] F):TE c (aw (d+1)) [some (.ref c.pb),some (.tup [.int op,w])] (.tup [.sub (.loc 1) (.int 0),Ji]) λ num=>.tup [.int op,F num]:=
 TE.tup (bD.cons (TE.pure (v:=.int op) λ yy yy yy yy=>pX rfl) (bD.cons (λ σ I Q P q=>cy (aE (pX rfl) (gZ (pS rfl) (IV h (aE (pX rfl) (k σ I Q P q)))))) bD.nil))
theorem zg {n:Nat} (h:n≤1):aS (KR c) (List.replicate n (.prim 7)) (rep n [.int 7]):=by
 cases n with
 |zero=>exact .nil
 |succ n=>cases n with
  |zero=>exact .cons ⟨7,rfl,rfl,by decide⟩ .nil
  |succ n=>exact absurd h (K6 _∘K0)
theorem Fu {hb:Nat} {nl:List (V×V)} {de:De} (O:c.Ok) (L:Ld c nl lo hb de):∀{e:Option Cd} {v:V},Hw c nl de e v→TE c (aw (d+9)) [some (.ref c.pb),some v] (.tup [.sub (.loc 1) (.int 0),Ji]) λ num=>uO num e
 |none,_,rfl=>TE.opnd (F:=λ yy=>.int 0) Ij.2.2 λ σ I Q P q=>go dL rfl (ay (pT rfl) (ay (pT rfl) (ay (pT rfl) (ay (pT rfl) (bj (pX rfl) (q _ I σ (.rfl' P) λ yy yy=>rfl))))))
 |some (.f t a r),_,⟨h1,h2⟩=>by
  obtain ⟨k,hk,rfl⟩:=h1
  exact TE.opnd Ij.1 λ σ I Q P q=>go dL rfl (ay (pT rfl) (aU (pT rfl) (TE.ret P q (TE.call (λ yy yy yy yy=>pS rfl) (yZ O (L.F t r h2) (L.ok.fr t r h2) hk (fc t a))))))
 |some (.m t a r),_,⟨h1,h2⟩=>by
  obtain ⟨k,hk,rfl⟩:=h1
  exact TE.opnd Ij.2.1 λ σ I Q P q=>go dL rfl (ay (pT rfl) (ay (pT rfl) (aU (pT rfl) (TE.ret P q (TE.call (λ yy yy yy yy=>pS rfl) (tW O (L.M t r h2) (L.ok.mr t r h2) hk (fc t a) (zg (L.ok.mr t r h2).2.1) λ t ht=>by rw [List.eq_of_mem_replicate ht];decide))))))
noncomputable def ew (num:K→Nat) (de:De):V:=.tup [.tup [],.int 8,.tup ((de.code.map some++[none]).map (uO num)),.tup []]
theorem aS.imp' {α β γ:Type} {P:α→β→Prop} {Q:γ→β→Prop} {f:α→γ} {l:List α} {r:List β} (h:aS P l r) (q:∀a b,a∈l→P a b→Q (f a) b):aS Q (l.map f) r:=⟨(Km _).trans h.1,λ i a b ha hb=>by
 rw [List.getElem?_map] at ha
 refine (Option.map_eq_some_iff.mp ha).elim λ x e=>e.2▸q x b (Kh e.1) (h.2 i x b e.1 hb)⟩
theorem BC {hb cb:Nat} {nl:List (V×V)} {de:De} {cv:List V} (O:c.Ok) (L:Ld c nl lo hb de) (h1:c.σ0.get hb=some (rD cb)) (h2:c.σ0.get cb=some (.list aa (cv++[.tup [.int 42,.int 0]]))) (h3:c.σ0.get (cb+1)=some (.list aa []))
  (hc:aS (Ai c.S.rows c.o nl) de.code cv):TF c (d+10) (.g "body_told") [.ref c.pb,.ref hb] λ num=>ew num de:=λ σ I Q P q=>P.elim λ T P'=>by
 have g1:=P'.get O h1
 refine go rS rfl ?_
 apply br (v:=.int 8) (by
  intro Q q
  apply xG (by dsimp! [g1,G5 (show ¬(8:Int)<8 by decide)])
  exact pX rfl _ q)
 have hall:aS (Hw c nl de) (de.code.map some++[none]) (cv++[.tup [.int 42,.int 0]]):=aS.snoc (hc.imp' λ a b ha p=>⟨p,L.ok.c a ha⟩) rfl
 refine TE.set P (TE.comp (G:=λ e num=>uO num e) O (λ σ I T P Q q=>cj (P.get O h1) rfl (gu (P.get O h2) q)) (λ σ I T P=>P.get O h2) hall λ a v pa K' hK=>hK _ (Fu O L pa)) λ v3 I3 σ3 X3 e3=>?_
 refine TE.set X3.P (TE.comp (P:=λ (_:Unit) _=>False) (as:=[]) (G:=λ yy yy=>.none) O (λ σ I T P Q q=>cj (P.get O h1) rfl (gu (P.get O h3) q)) (λ σ I T P=>P.get O h3) .nil λ a v pa=>pa.elim) λ v4 I4 σ4 X4 e4=>?_
 refine TE.ret X4.P (F:=λ yy=>.tup [.tup [],.int 8,v3,v4]) (λ v I5 σ5 X5 e5=>q v I5 σ5 ((X3.trans X4).trans X5) λ num a=>?_) (TE.tup (bD.cons (TE.meth (vs:=[.tup []]) (λ σ Q q=>q) cG rfl (λ σ I T P=>(by dsimp! [P.get O h1])) (gc O .nil λ t h=>absurd h Kf)) (bD.cons (TE.pure λ yy yy yy yy=>pX rfl) (bD.cons (TE.pure λ yy yy yy yy=>pX rfl) (bD.cons (TE.pure λ yy yy yy yy=>pX rfl) bD.nil)))))
 rw [e5 num a,e3 num ((a.mono X5.i).mono X4.i),e4 num (a.mono X5.i)];rfl
end
noncomputable def mT (num:K→Nat) (r:Mr) (bd:V):V:=.tup [.tup [.str r.nm,.int 6,.int r.s,.int r.g,.tup ((List.replicate r.g "U").map V.str),.tup ((List.replicate r.g "U").map λ yy=>.tup [.int 0,.tup []]),.int 0],.tup [.int (num (aT r.ret)),.tup ((r.ps.map aT).map λ t=>.int (num t:Nat)),.tup (yE r.ps.length),.tup (rep r.ps.length [.int 0])],bd]
section
variable {d lo:Nat} {c:Cx}
theorem pH {mid:Nat} {t:Bool} {r:Mr} {b:V} {bF:(K→Nat)→V} (O:c.Ok) (M:MF c.σ0 c.S c.o lo t r mid b) (ok:r.ok)
  (hb:(b=.none∧bF=λ yy=>.tup [])∨∃h:Nat,b=.ref h∧TF c (d+10) (.g "body_told") [.ref c.pb,.ref h] bF):TF c (d+11) (.g "method_told") [.ref c.pb,.int mid] λ num=>mT num r (bF num):=λ σ I Q P q=>
 M.el λ n gn gb ret ks h1 h2 h3 h4 h5 h6 h7 h8 h9=>P.elim λ T P'=>by
  refine go mA rfl ?_
  apply br (v:=.ref n) (by dsimp! [P'.inst,P'.get O O.C.inst,bp (P'.get O O.C.mzz) h1])
  refine TE.set P (TE.tup (bD.cons (TE.pure (v:=.str r.nm) λ σ I T P=>(by dsimp! [P.get O h5])) (bD.cons (TE.pure (v:=.int 6) λ σ I T P=>(by dsimp! [P.get O h5])) (bD.cons (TE.pure (v:=vi r.s) λ σ I T P=>(by dsimp! [P.get O h5])) (bD.cons (TE.pure (v:=vi r.g) λ σ I T P=>(by dsimp! [P.get O h5]))
   (bD.cons (TE.pure (v:=.tup ((List.replicate r.g "U").map V.str)) λ σ I T P=>(by dsimp! [P.get O h5,nS (P.get O h6) rfl])) (bD.cons (TE.call (vs:=[.ref c.pb,.ref gb]) (λ σ I T P=>(by dsimp! [P.get O h5])) (pI O h7)) (bD.cons (TE.pure (v:=.int 0) λ σ I T P=>(by dsimp! [P.get O h5])) bD.nil)))))))) λ v3 I3 σ3 X3 e3=>?_
  refine TE.set X3.P (TE.tup (bD.cons (TE.meth (λ σ Q q=>q) bX rfl (λ σ I T P=>(by dsimp! [P.get O h5])) (dy O h8 (bN _ ok.2.2.2.1))) (bD.cons (TE.meth (vs:=[.tup (ks.map vi)]) (λ σ Q q=>q) cG rfl (λ σ I T P=>(by dsimp! [P.get O h5])) (gc O (kT h9) λ s hs=>(KB.mp hs).elim λ p h=>h.2▸bN _ (ok.2.2.2.2.1 p h.1)))
   (bD.cons (TE.pure (v:=.tup (yE ks.length)) λ σ I T P=>(by dsimp! [P.get O h5,yV])) (bD.cons (TE.pure (v:=.tup (rep ks.length [.int 0])) λ σ I T P=>(by dsimp! [P.get O h5,yV])) bD.nil))))) λ v4 I4 σ4 X4 e4=>X4.P.elim λ T4 P4=>?_
  have h5':=P4.get O h5
  have fin:∀v I' σ',TX c σ4 I4 σ' I'→(∀num,Ag num I'→v=.tup [v3,v4,bF num])→Q v σ':=λ v I' σ' X e=>q v I' σ' ((X3.trans X4).trans X) λ num a=>by
   rw [e num a,e3 num ((a.mono X.i).mono X4.i),e4 num (a.mono X.i),h9.len];rfl
  rcases hb with ⟨rfl,rfl⟩|⟨h,rfl,hT⟩
  ·apply aU (by dsimp! [h5',Ix rfl])
   exact TE.ret (F:=λ yy=>.tup [v3,v4,.tup []]) X4.P fin (TE.pure λ yy yy yy yy=>pX rfl)
  ·apply ay (by dsimp! [h5',Ix rfl])
   exact TE.ret (F:=λ num=>.tup [v3,v4,bF num]) X4.P fin (TE.tup (bD.cons (TE.pure λ yy yy yy yy=>pX rfl) (bD.cons (TE.pure λ yy yy yy yy=>pX rfl) (bD.cons (TE.call (vs:=[.ref c.pb,.ref h]) (λ σ I T P=>(by dsimp! [P.get O h5])) hT) bD.nil))))
noncomputable def JL (num:K→Nat) (nm:String):V:=.tup [.str nm,.int 1,.int 0,.int (num (.prim 12)),.tup [],.int (num .none)]
noncomputable def JN:V:=.tup [.tup [.str "T"],.tup [.int 0],.tup [.tup [.int 0,.tup []]],.tup []]
noncomputable def GY (num:K→Nat) (i:Im):V:=.tup [ek num i.b,zC num (.cls true (ka i.a)) i.r []]
noncomputable def Gb (num:K→Nat) (p:Pr):V:=.tup [.str "p",.int (num (aT p.tm)),ek num p.x,ek num p.y,.tup []]
noncomputable def Hc (num:K→Nat) (p:Pr):V:=.tup [.str "p",.int (num (aT p.tm)),ek num p.x,ek num p.y]
noncomputable def HK (num:K→Nat) (nm:String) (fs ms is ps es:List V) (cc fi:V):V:=.tup [JL num nm,JN,.tup fs,.tup ms,.tup is,.tup ps,.tup es,.tup [cc,fi]]
theorem wn (O:c.Ok):TF c (d+6) (.m "Paths" "kinds") [.ref c.pb,.tup []] λ yy=>.tup []:=gc O (as:=[]) .nil λ t h=>absurd h Kf
theorem wm {z:Nat} (O:c.Ok) (hz:c.σ0.get z=some (.list aa [])):TF c (d+6) (.m "Paths" "kinds") [.ref c.pb,.ref z] λ yy=>.tup []:=
 TF.ret cV rfl rfl (TE.comp (P:=λ (_:Unit) _=>False) (as:=[]) (G:=λ yy yy=>.none) O (λ σ I T P Q q=>gu (P.get O hz) q) (λ σ I T P=>P.get O hz) .nil λ a v pa=>pa.elim)
theorem Fy:TF c (d+1) (.g "type_path") [.ref c.pb,.int 0] λ yy=>.tup []:=λ σ I Q P q=>Er (q _ I σ (.rfl' P) λ yy yy=>rfl)
theorem wh {n tid fr mr x cc fi:Nat} {nm:String} {nl:List (V×V)} {m0 m1:List Mr} {fs:List Fr} {ms:List Mr} {is:List Im} {ps es:List Pr} {fv mv iv pv ev:List V} {mF:(K→Nat)→Mr→V} {cF fF:(K→Nat)→V} (OK:c.Ok)
  (hT:c.S.tz[tid]? =some (some (n,x))) (hn:c.σ0.get n=some (cU n tid nm fr mr x cc fi)) (tt:TT c.σ0 n ["T"])
  (hf:c.σ0.get fr=some (.list aa fv)) (hm:c.σ0.get mr=some (.list aa mv)) (hi:c.σ0.get (n+7)=some (.list aa iv)) (hp:c.σ0.get (n+8)=some (.list aa pv)) (he:c.σ0.get (n+9)=some (.list aa ev))
  (hF:aS (λ r v=>TF c (d+12) (.g "field_told") [.ref c.pb,v] (λ num=>fT num r)) fs fv)
  (hM:aS (λ r v=>TF c (d+12) (.g "method_told") [.ref c.pb,v] (λ num=>mF num r)) ms mv)
  (hI:aS (HD c.S.rows c.o nl m0 m1) is iv) (hP:aS (EP c.S.rows c.o nl m0 m1) ps pv) (hE:aS (Ja c.S.rows c.o nl m0 m1) es ev)
  (mem:∀y:cM,y.ok m0 m1→TF c (d+12) (.g "member_name") [.ref c.pb,.int (hN nl y)] (λ num=>ek num y))
  (mp:∀r∈m1,∀a (k:Int),c4 c.S.rows c.o (.cls true (ka a)) k→TF c (d+12) (.g "method_path") [.ref c.pb,.tup [.int k,.int (mN nl true r),.tup []]] (λ num=>zC num (.cls true (ka a)) r []))
  (hc:TF c (d+12) (.g "member_name") [.ref c.pb,.int cc] cF) (hfi:TF c (d+12) (.g "member_name") [.ref c.pb,.int fi] fF):
  TF c (d+13) (.g "type_told") [.ref c.pb,.int tid] (λ num=>HK num nm (fs.map (fT num)) (ms.map (mF num)) (is.map (GY num)) (ps.map (Gb num)) (es.map (Hc num)) (cF num) (fF num)):=λ σ I Q P q=>P.elim λ T P'=>by
 refine go rI rfl ?_
 apply br (v:=.ref n) (by dsimp! [P'.inst,P'.get OK OK.C.inst,bp (P'.get OK OK.C.tz) hT])
 refine TE.set P (TE.tup (bD.cons (TE.pure (v:=.str nm) λ σ I T P=>(by dsimp! [P.get OK hn])) (bD.cons (TE.pure (v:=.int 1) λ σ I T P=>(by dsimp! [P.get OK hn])) (bD.cons (TE.pure (v:=.int 0) λ σ I T P=>(by dsimp! [P.get OK hn])) (bD.cons (TE.meth (vs:=[.int 12]) (λ σ Q q=>q) bX rfl (λ σ I T P=>(by dsimp! [P.get OK hn])) (dy (t:=.prim 12) OK ⟨rfl,by decide⟩ (by decide)))
  (bD.cons (TE.meth (vs:=[.ref (n+1)]) (λ σ Q q=>q) cG rfl (λ σ I T P=>(by dsimp! [P.get OK hn])) (wm OK tt.ifaces)) (bD.cons (TE.meth (vs:=[.int (-1)]) (λ σ Q q=>q) bX rfl (λ σ I T P=>(by dsimp! [P.get OK hn])) (dy (t:=.none) OK rfl (by decide))) bD.nil))))))) λ v3 I3 σ3 X3 e3=>?_
 refine TE.set X3.P (TE.tup (bD.cons (TE.pure (v:=.tup [.str "T"]) λ σ I T P=>(by dsimp! [P.get OK hn,nS (P.get OK tt.params) rfl])) (bD.cons (TE.pure (v:=.tup [.int 0]) λ σ I T P=>(by dsimp! [P.get OK hn,nS (P.get OK tt.vars) rfl])) (bD.cons (TE.call (vs:=[.ref c.pb,.ref (n+4)]) (λ σ I T P=>(by dsimp! [P.get OK hn])) (pI OK tt.bounds))
  (bD.cons (TE.call (vs:=[.ref c.pb,.int 0]) (λ σ I T P=>(by dsimp! [P.get OK hn])) Fy) bD.nil))))) λ v4 I4 σ4 X4 e4=>?_
 refine TE.set X4.P (TE.comp (G:=λ r num=>fT num r) OK (λ σ I T P Q q=>cj (P.get OK hn) rfl (gu (P.get OK hf) q)) (λ σ I T P=>P.get OK hf) hF λ a v pa K' hK=>hK _ (TE.call (λ yy yy yy yy=>pS rfl) pa)) λ v5 I5 σ5 X5 e5=>?_
 refine TE.set X5.P (TE.comp (G:=λ r num=>mF num r) OK (λ σ I T P Q q=>cj (P.get OK hn) rfl (gu (P.get OK hm) q)) (λ σ I T P=>P.get OK hm) hM λ a v pa K' hK=>hK _ (TE.call (λ yy yy yy yy=>pS rfl) pa)) λ v6 I6 σ6 X6 e6=>?_
 refine TE.set X6.P (TE.comp (G:=λ r num=>GY num r) OK (λ σ I T P Q q=>cj (P.get OK hn) rfl (gu (P.get OK hi) q)) (λ σ I T P=>P.get OK hi) hI λ a v pa K' hK=>pa.2.elim λ k e=>by
  rw [e.2]
  exact ⟨rfl,hK _ (TE.tup (bD.cons (TE.call (λ yy yy yy yy=>pS rfl) (mem a.b pa.1.1)) (bD.cons (TE.call (λ yy yy yy yy=>pS rfl) (mp a.r pa.1.2 a.a k e.1)) bD.nil)))⟩) λ v7 I7 σ7 X7 e7=>?_
 refine TE.set X7.P (TE.comp (G:=λ r num=>Gb num r) OK (λ σ I T P Q q=>cj (P.get OK hn) rfl (gu (P.get OK hp) q)) (λ σ I T P=>P.get OK hp) hP λ a v pa K' hK=>pa.2.elim λ k e=>by
  rw [e.2]
  exact ⟨rfl,hK _ (TE.tup (bD.cons (TE.pure (v:=.str "p") λ yy yy yy yy=>pX rfl) (bD.cons (TE.meth (λ σ Q q=>q) bX rfl (λ yy yy yy yy=>pS rfl) (dy OK e.1 (bN _ pa.1.1))) (bD.cons (TE.call (λ yy yy yy yy=>pS rfl) (mem a.x pa.1.2.1)) (bD.cons (TE.call (λ yy yy yy yy=>pS rfl) (mem a.y pa.1.2.2)) (bD.cons (TE.meth (λ σ Q q=>q) cG rfl (λ yy yy yy yy=>pS rfl) (wn OK)) bD.nil))))))⟩) λ v8 I8 σ8 X8 e8=>?_
 refine TE.set X8.P (TE.comp (G:=λ r num=>Hc num r) OK (λ σ I T P Q q=>cj (P.get OK hn) rfl (gu (P.get OK he) q)) (λ σ I T P=>P.get OK he) hE λ a v pa K' hK=>pa.2.elim λ k e=>by
  rw [e.2]
  exact ⟨rfl,hK _ (TE.tup (bD.cons (TE.pure (v:=.str "p") λ yy yy yy yy=>pX rfl) (bD.cons (TE.meth (λ σ Q q=>q) bX rfl (λ yy yy yy yy=>pS rfl) (dy OK e.1 (bN _ pa.1.1))) (bD.cons (TE.call (λ yy yy yy yy=>pS rfl) (mem a.x pa.1.2.1)) (bD.cons (TE.call (λ yy yy yy yy=>pS rfl) (mem a.y pa.1.2.2)) bD.nil)))))⟩) λ v9 I9 σ9 X9 e9=>?_
 refine TE.set X9.P (TE.tup (bD.cons (TE.call (vs:=[.ref c.pb,.int cc]) (λ σ I T P=>(by dsimp! [P.get OK hn])) hc) (bD.cons (TE.call (vs:=[.ref c.pb,.int fi]) (λ σ I T P=>(by dsimp! [P.get OK hn])) hfi) bD.nil))) λ v10 I10 σ10 X10 e10=>?_
 refine TE.ret (F:=λ yy=>.tup [v3,v4,v5,v6,v7,v8,v9,v10]) X10.P (λ v I' σ' X e=>q v I' σ' (X3.trans (X4.trans (X5.trans (X6.trans (X7.trans (X8.trans (X9.trans (X10.trans X)))))))) λ num a=>?_) (TE.pure λ yy yy yy yy=>pX rfl)
 have a10:=a.mono X.i
 have a9:=a10.mono X10.i
 have a8:=a9.mono X9.i
 have a7:=a8.mono X8.i
 have a6:=a7.mono X7.i
 have a5:=a6.mono X6.i
 have a4:=a5.mono X5.i
 rw [e num a,e3 num (a4.mono X4.i),e4 num a4,e5 num a5,e6 num a6,e7 num a7,e8 num a8,e9 num a9,e10 num a10];rfl
end
noncomputable def c8 (k:Nat):V→V
 | .tup l=>(l[k]?).getD .none
 |_=>.none
theorem j7 {α β:Type} {f g:α→β}:∀{l r:List α},(∀a∈l,∀b∈r,f a=g b→a=b)→l.map f=r.map g→l=r∧∀a∈l,f a=g a
 |[],[],_,_=>⟨rfl,λ yy h=>absurd h Kf⟩
 |[],_::_,_,h=>by cases h
 |_::_,[],_,h=>by cases h
 |a::l,b::r,q,h=>by
  have e:=Lo h
  have ab:=q a (.head _) b (.head _) e.1
  have i:=j7 (λ x hx y hy=>q x (.tail _ hx) y (.tail _ hy)) e.2
  subst ab
  exact ⟨by rw [i.1],Kl.mpr ⟨e.1,i.2⟩⟩
theorem bS {α β:Type} {f:α→β} {l r:List α} (q:∀a∈l,∀b∈r,f a=f b→a=b) (h:l.map f=r.map f):l=r:=(j7 q h).1
theorem Fr.ext' {a b:Fr} (h1:a.nm=b.nm) (h2:a.tm=b.tm):a=b:=show (⟨a.nm,a.tm⟩:Fr)=⟨b.nm,b.tm⟩ by rw [h1,h2]
theorem Mr.ext' {a b:Mr} (h1:a.nm=b.nm) (h2:a.g=b.g) (h3:a.s=b.s) (h4:a.ret=b.ret) (h5:a.ps=b.ps):a=b:=show (⟨a.nm,a.g,a.s,a.ret,a.ps⟩:Mr)=⟨b.nm,b.g,b.s,b.ret,b.ps⟩ by rw [h1,h2,h3,h4,h5]
theorem cM.ext' {a b:cM} (h1:a.t=b.t) (h2:a.r=b.r):a=b:=show (⟨a.t,a.r⟩:cM)=⟨b.t,b.r⟩ by rw [h1,h2]
theorem Im.ext' {a b:Im} (h1:a.b=b.b) (h2:a.a=b.a) (h3:a.r=b.r):a=b:=show (⟨a.b,a.a,a.r⟩:Im)=⟨b.b,b.a,b.r⟩ by rw [h1,h2,h3]
theorem Pr.ext' {a b:Pr} (h1:a.tm=b.tm) (h2:a.x=b.x) (h3:a.y=b.y):a=b:=show (⟨a.tm,a.x,a.y⟩:Pr)=⟨b.tm,b.x,b.y⟩ by rw [h1,h2,h3]
noncomputable def lT (num:K→Nat):Prop:=∀s∈cA,∀t∈cA,num s=num t→s=t
section
variable {num:K→Nat} (N:lT num)
include N
theorem lT.term {s t:String} (hs:s∈bB) (ht:t∈bB) (h:vi (num (aT s))=vi (num (aT t))):s=t:=
 ga s hs t ht (N _ (bN s hs) _ (bN t ht) (aO h))
theorem lT.ps {a b:List String} (ha:∀p∈a,p∈bB) (hb:∀p∈b,p∈bB) (h:V.tup ((a.map aT).map λ t=>vi (num t))=.tup ((b.map aT).map λ t=>vi (num t))):a=b:=by
 have h:=V.tup.inj h
 rw [List.map_map,List.map_map] at h
 exact bS (λ x hx y hy e=>N.term (ha x hx) (hb y hy) e) h
theorem lT.tN {a b:Mr} (ha:a.ok) (hb:b.ok) (h:tN num a=tN num b):a=b:=
 Mr.ext' (V.str.inj (congrArg (c8 0) h)) (aO (congrArg (c8 1) h)) (aO (congrArg (c8 2) h)) (N.term ha.2.2.2.1 hb.2.2.2.1 (congrArg (c8 3) h)) (N.ps ha.2.2.2.2.1 hb.2.2.2.2.1 (congrArg (c8 4) h))
theorem lT.mT {a b:Mr} {u v:V} (ha:a.ok) (hb:b.ok) (h:mT num a u=mT num b v):a=b∧u=v:=
 have h0:c8 0 (L3.mT num a u)=c8 0 (L3.mT num b v):=congrArg (c8 0) h
 have h1:c8 1 (L3.mT num a u)=c8 1 (L3.mT num b v):=congrArg (c8 1) h
 ⟨Mr.ext' (V.str.inj (congrArg (c8 0) h0)) (aO (congrArg (c8 3) h0)) (aO (congrArg (c8 2) h0)) (N.term ha.2.2.2.1 hb.2.2.2.1 (congrArg (c8 0) h1)) (N.ps ha.2.2.2.2.1 hb.2.2.2.2.1 (congrArg (c8 1) h1)),congrArg (c8 2) h⟩
theorem lT.mem {a b:cM} (ha:a.r.ok) (hb:b.r.ok) (h:ek num a=ek num b):a=b:=
 cM.ext' (hH (aO (congrArg (λ v=>c8 0 (c8 0 v)) h))) (N.tN ha hb (congrArg (c8 1) h))
theorem lT.fT {a b:Fr} (ha:a.ok) (hb:b.ok) (h:fT num a=fT num b):a=b:=Fr.ext' (V.str.inj (congrArg (c8 0) h)) (N.term ha hb (congrArg (c8 1) h))
theorem lT.cls {t t' a a':Bool} (h:vi (num (.cls t (ka a)))=vi (num (.cls t' (ka a')))):t=t'∧a=a':=
 have e:=K.cls.inj (N _ (fc t a) _ (fc t' a') (aO h))
 ⟨e.1,xE e.2⟩
theorem lT.use {c d:De} (oc:c.ok) (od:d.ok) {e e':Option Cd} (h1:∀x,e=some x→x.ok c.f0 c.f1 c.m0 c.m1) (h2:∀x,e'=some x→x.ok d.f0 d.f1 d.m0 d.m1) (h:uO num e=uO num e'):e=e':=by
 have op:=congrArg (c8 0) h
 have w:=congrArg (c8 1) h
 cases e with
 |none=>cases e' with
  |none=>rfl
  |some x=>cases x with
   |f t a r=>exact absurd (V.int.inj op) (show ¬(42:Int)=123 by decide)
   |m t a r=>exact absurd (V.int.inj op) (show ¬(42:Int)=40 by decide)
 |some x=>cases x with
  |f t a r=>cases e' with
   |none=>exact absurd (V.int.inj op) (show ¬(123:Int)=42 by decide)
   |some y=>cases y with
    |f t' a' r'=>
     have e1:=N.cls (congrArg (c8 0) w)
     have e2:r=r':=Fr.ext' (V.str.inj (congrArg (c8 1) w)) (N.term (oc.fr t r (h1 _ rfl)) (od.fr t' r' (h2 _ rfl)) (congrArg (c8 2) w))
     rw [e1.1,e1.2,e2]
    |m t' a' r'=>exact absurd (V.int.inj op) (show ¬(123:Int)=40 by decide)
  |m t a r=>cases e' with
   |none=>exact absurd (V.int.inj op) (show ¬(40:Int)=42 by decide)
   |some y=>cases y with
    |f t' a' r'=>exact absurd (V.int.inj op) (show ¬(40:Int)=123 by decide)
    |m t' a' r'=>
     have e1:=N.cls (congrArg (c8 0) w)
     have e2:=N.tN (oc.mr t r (h1 _ rfl)) (od.mr t' r' (h2 _ rfl)) (congrArg (c8 1) w)
     rw [e1.1,e1.2,e2]
end
noncomputable def mB (num:K→Nat) (d:De) (t:Bool) (r:Mr):V:=mT num r (if (⟨t,r⟩:cM)=d.held then ew num d else .tup [])
noncomputable def TA (num:K→Nat) (d:De):V:=HK num "A" (d.f0.map (fT num)) (d.m0.map (mB num d false)) ((cZ d.impls).map (GY num)) ((cZ d.props).map (Gb num)) ((cZ d.events).map (Hc num)) (ek num d.k0) (ek num d.k1)
noncomputable def TB (num:K→Nat) (d:De):V:=HK num "B" (d.f1.map (fT num)) (d.m1.map (mB num d true)) [] [] [] (.tup []) (.tup [])
theorem gx {num:K→Nat} {c d:De} (h:De.alike c d):TA num c=TA num d∧TB num c=TB num d:=by
 have hm:∀t,mB num c t=mB num d t:=λ t=>funext λ r=>by unfold mB ew;rw [h.2.2.1,h.2.2.2.1]
 constructor
 ·unfold TA;rw [h.1.1,h.2.1.1,h.2.2.2.2.1.1,h.2.2.2.2.1.2,h.2.2.2.2.2.1,h.2.2.2.2.2.2.1,h.2.2.2.2.2.2.2,hm false]
 ·unfold TB;rw [h.1.2,h.2.1.2,hm true]
theorem ra {α:Type}:∀{l acc:List α} {a:α},a∈kH acc l→a∈acc∨a∈l
 |[],acc,a,h=>.inl h
 |x::l,acc,a,h=>(ra (l:=l) h).elim (λ h=>by
   by_cases hx:x∈acc
   ·rw [if_pos hx] at h;exact .inl h
   ·rw [if_neg hx] at h
    exact (KY.mp h).elim .inl λ h=>.inr (Ko.mp h▸.head _)) λ h=>.inr (.tail _ h)
theorem dw {α:Type} {l:List α} {a:α} (h:a∈cZ l):a∈l:=(ra h).resolve_left Kf
theorem mL {num:K→Nat} (N:lT num) {c d:De} (oc:c.ok) (od:d.ok) (hA:TA num c=TA num d) (hB:TB num c=TB num d):De.alike c d:=by
 have f0:=bS (λ x hx y hy e=>N.fT (oc.fr false x hx) (od.fr false y hy) e) (V.tup.inj (congrArg (c8 2) hA))
 have f1:=bS (λ x hx y hy e=>N.fT (oc.fr true x hx) (od.fr true y hy) e) (V.tup.inj (congrArg (c8 2) hB))
 have m0:=j7 (λ x hx y hy e=>(N.mT (oc.mr false x hx) (od.mr false y hy) e).1) (V.tup.inj (congrArg (c8 3) hA))
 have m1:=j7 (λ x hx y hy e=>(N.mT (oc.mr true x hx) (od.mr true y hy) e).1) (V.tup.inj (congrArg (c8 3) hB))
 have hm:∀t,∀r∈c.m t,mB num c t r=mB num d t r:=λ t=>by
  cases t with
  |false=>exact m0.2
  |true=>exact m1.2
 have hh:c.held=d.held∧ew num c=ew num d:=by
  have key:=(N.mT (oc.mr _ _ oc.h) (oc.mr _ _ oc.h) (hm c.held.t c.held.r oc.h)).2
  have key:(if c.held=c.held then ew num c else .tup [])=(if c.held=d.held then ew num d else .tup []):=key
  rw [if_pos rfl] at key
  by_cases hq:c.held=d.held
  ·rw [if_pos hq] at key;exact ⟨hq,key⟩
  ·rw [if_neg hq] at key;cases key
 have hcode:c.code=d.code:=by
  have ks:∀{e:De},e.ok→∀x∈e.code.map some++[none],∀y,x=some y→y.ok e.f0 e.f1 e.m0 e.m1:=λ {e} oe x hx y hy=>by
   rw [hy] at hx
   exact (KY.mp hx).elim (λ h=>(KB.mp h).elim λ z h=>J4 h.2▸oe.c z h.1) λ h=>by cases Ko.mp h
  have e:=bS (λ x hx y hy e=>N.use oc od (ks oc x hx) (ks od y hy) e) (V.tup.inj (congrArg (c8 2) hh.2))
  exact bS (λ yy yy yy yy e=>J4 e) (List.append_inj_left' e rfl)
 have me:∀{x y:cM},x.ok c.m0 c.m1→y.ok d.m0 d.m1→ek num x=ek num y→x=y:=λ hx hy e=>N.mem (oc.mr _ _ hx) (od.mr _ _ hy) e
 refine ⟨⟨f0,f1⟩,⟨m0.1,m1.1⟩,hcode,hh.1,⟨me oc.k0 od.k0 (congrArg (λ v=>c8 0 (c8 7 v)) hA),me oc.k1 od.k1 (congrArg (λ v=>c8 1 (c8 7 v)) hA)⟩,?_,?_,?_⟩
 ·refine bS (λ x hx y hy e=>?_) (V.tup.inj (congrArg (c8 4) hA))
  have ox:=oc.i x (dw hx)
  have oy:=od.i y (dw hy)
  have w:zC num (.cls true (ka x.a)) x.r []=zC num (.cls true (ka y.a)) y.r []:=congrArg (c8 1) e
  exact Im.ext' (me ox.1 oy.1 (congrArg (c8 0) e)) (N.cls (congrArg (c8 0) w)).2 (N.tN (oc.mr true _ ox.2) (od.mr true _ oy.2) (congrArg (c8 1) w))
 ·refine bS (λ x hx y hy e=>?_) (V.tup.inj (congrArg (c8 5) hA))
  have ox:=oc.p x (dw hx)
  have oy:=od.p y (dw hy)
  exact Pr.ext' (N.term ox.1 oy.1 (congrArg (c8 1) e)) (me ox.2.1 oy.2.1 (congrArg (c8 2) e)) (me ox.2.2 oy.2.2 (congrArg (c8 3) e))
 ·refine bS (λ x hx y hy e=>?_) (V.tup.inj (congrArg (c8 6) hA))
  have ox:=oc.e x (dw hx)
  have oy:=od.e y (dw hy)
  exact Pr.ext' (N.term ox.1 oy.1 (congrArg (c8 1) e)) (me ox.2.1 oy.2.1 (congrArg (c8 2) e)) (me ox.2.2 oy.2.2 (congrArg (c8 3) e))
theorem FX {C:ak} {x y:X} {ρ:ax} {σ:St} {m n:Nat} (h:∀Q,Q (.int (m:Nat)) σ→aH C x ρ σ Q) (k:∀Q,Q (.int (n:Nat)) σ→aH C y ρ σ Q) (hm:m≤100000) (hn:n≤100000) {Q:List V→(St→Prop)→St→Prop} (q:Q (bG m n) (λ yy=>True) σ):vf C (.rng2 x y) ρ σ Q:=h _ (k _ ⟨Kp m,KP.mpr hm,Kp n,KP.mpr hn,q⟩)
section
variable {C:ak} {ρ:ax} {σ:St} {x:X} {l:List X} {Q:Bool→St→Prop}
theorem Jv (h:∀Q,Q true σ→fe C x ρ σ Q) (q:mK C true l ρ σ Q):mK C true (x::l) ρ σ Q:=h _ q
theorem Jw (h:∀Q,Q false σ→fe C x ρ σ Q) (q:Q false σ):mK C true (x::l) ρ σ Q:=h _ q
end
theorem BR {n:Nat}:bG 1 n=(List.range' 1 (n - 1)).map λ (i:Nat)=>V.int i:=by
 unfold bG
 rw [List.range'_eq_map_range,List.map_map,show ((n:Int) - 1).toNat=n - 1 by omega]
 rfl
theorem i7 {guard:St→Prop} {f:V→St→(Option V→St→Prop)→Prop} {Q:List V→St→Prop} (I:Nat→List V→St→Prop) {n:Nat} (h0:∀acc s,I n acc s→guard s∧Q acc s)
  (h1:∀k,k<n→∀acc s,I k acc s→guard s∧∀L:Option V→St→Prop,(∀y σ',I (k+1) (acc++[y]) σ'→L (some y) σ')→(∀σ',I (k+1) acc σ'→L none σ')→f (.int (k:Nat)) s L):
  ∀(m k:Nat),k+m=n→∀acc s,I k acc s→er guard f ((List.range' k m).map λ (i:Nat)=>V.int i) acc s Q
 |0,k,e,acc,s,i=>h0 acc s (e▸i)
 |m+1,k,e,acc,s,i=>
  have h:=h1 k (e▸KD (Nat.succ_pos m)) acc s i
  have e':k+1+m=n:=(Ln k 1 m).trans e
  ⟨h.1,h.2 _ (λ yy yy i'=>i7 I h0 h1 m (k+1) e' _ _ i') λ yy i'=>i7 I h0 h1 m (k+1) e' _ _ i'⟩
noncomputable def cP (o:bJ) (k:Nat):List V:=(if o.a<k then [V.int o.a] else [])++(if o.b<k then [V.int o.b] else [])
theorem qe {o:bJ} {k:Nat} (ha:o.a≠k) (hb:o.b≠k):cP o (k+1)=cP o k:=by
 have h:∀{a:Nat},a≠k→(a<k+1)=(a<k):=λ h=>propext ⟨λ e=>Nat.lt_of_le_of_ne (KV e) h,Kr⟩
 unfold cP
 simp only [h ha,h hb]
theorem Gu {o:bJ} (h:o.a<o.b):cP o (o.a+1)=cP o o.a++[.int o.a]:=by
 unfold cP
 rw [if_pos (Nat.lt_succ_self _),if_neg (Nat.not_lt.mpr h),if_neg (Nat.lt_irrefl _),if_neg (Nat.not_lt.mpr (Nat.le_of_lt h))];rfl
theorem Gs {o:bJ} (h:o.a<o.b):cP o (o.b+1)=cP o o.b++[.int o.b]:=by
 unfold cP
 rw [if_pos (Nat.lt_succ_of_lt h),if_pos (Nat.lt_succ_self _),if_pos h,if_neg (Nat.lt_irrefl _)];rfl
theorem zv {o:bJ} {n:Nat} (h1:o.a<n) (h2:o.b<n):cP o n=[.int o.a,.int o.b]:=by
 unfold cP;rw [if_pos h1,if_pos h2];rfl
theorem AU {d p x:Nat} {S:AS} {o:bJ} {nA nB:Nat} {σ:St} {Q:V→St→Prop} (C:SC σ p S) (ab:o.a<o.b) (a0:0<o.a) (tA:S.tz[o.a]? =some (some (nA,x))) (tB:S.tz[o.b]? =some (some (nB,x))) (only:∀i n:Nat,S.tz[i]? =some (some (n,x))→i=o.a∨i=o.b) (hs:S.size<90000)
  (q:∀σ',σ'.len=σ.len+1→σ'.get σ.len=some (.list aa [.int o.a,.int o.b])→(∀k,k<σ.len→σ'.get k=σ.get k)→Q (.ref σ.len) σ'):aw (d+1) (.g "own_types") [.ref p,.int x] σ Q:=by
 have ha:=(Ka.mp tA).1
 have hb:=(Ka.mp tB).1
 have hl:S.tz.length≤100000:=Kb (JV AS.sz_types (JY hs (by decide)))
 have hn:=JV (Kw _) ha
 refine go rL rfl (dz ?_)
 refine FX (m:=1) (n:=S.tz.length) (pX rfl) (by dsimp! [C.inst,bH C.tz (congrArg some (List.length_map _))]) (by decide) hl ?_
 show er _ _ (bG 1 S.tz.length) _ _ _
 rw [BR]
 refine i7 (λ k acc s=>s=σ∧acc=cP o k) (n:=S.tz.length) (λ acc s i=>?_) (λ k hk acc s i=>?_) (S.tz.length - 1) 1 (Nat.add_sub_cancel' hn) [] σ ⟨rfl,?_⟩
 ·rw [i.1,i.2,zv ha hb]
  exact ⟨trivial,q _ aD be λ k hk=>aP hk⟩
 ·rw [i.1,i.2]
  refine ⟨trivial,λ L hS hN=>?_⟩
  have e:S.tz[k]? =some S.tz[k]:=JZ hk
  cases h:S.tz[k] with
  |none=>
   rw [h] at e
   have n1:o.a≠k:=λ e'=>by rw [e',e] at tA;cases tA
   have n2:o.b≠k:=λ e'=>by rw [e',e] at tB;cases tB
   exact Jw (by dsimp! [C.inst,bp C.tz e,xH rfl]) (hN _ ⟨rfl,(qe n1 n2).symm⟩)
  |some y=>
   rw [h] at e
   refine (C.ti k y.1 y.2 e).2.2.elim λ as t=>?_
   have tg:pj (.inst aa "TypeDef" as) "asm"=some (vi y.2):=(show (if cT "TypeDef" "asm"=true then cu as "asm" else none)=cu as "asm" from if_pos rfl).trans t.2
   refine Jv (by dsimp! [C.inst,bp C.tz e,xH rfl]) ?_
   by_cases hx:y.2=x
   ·refine Jv (by intro Q q;apply cj C.inst rfl;apply bp C.tz e;apply cj t.1 tg;exact EN (congrArg Int.ofNat hx) q) ?_
    rcases only k y.1 (hx▸e) with h3|h3
    ·subst h3;exact hS _ _ ⟨rfl,(Gu ab).symm⟩
    ·subst h3;exact hS _ _ ⟨rfl,(Gs ab).symm⟩
   ·have n1:o.a≠k:=λ e'=>by rw [e',e] at tA;exact hx (congrArg Prod.snd (J4 (J4 tA)))
    have n2:o.b≠k:=λ e'=>by rw [e',e] at tB;exact hx (congrArg Prod.snd (J4 (J4 tB)))
    exact Jw (by intro Q q;apply cj C.inst rfl;apply bp C.tz e;apply cj t.1 tg;exact vo (λ h=>hx (K5 h)) q) (hN _ ⟨rfl,(qe n1 n2).symm⟩)
 ·unfold cP
  rw [if_neg (Nat.not_lt.mpr a0),if_neg (Nat.not_lt.mpr (Nat.le_of_lt (Nat.lt_of_le_of_lt a0 ab)))];rfl
theorem lF {d p x:Nat} {S:AS} {s:String} {σ:St} {Q:V→St→Prop} (C:SC σ p S) (h:S.az[x]? =some s) (q:Q (.str s) σ):aw (d+1) (.g "asm_name") [.ref p,.int x] σ Q:=by
 refine go tJ rfl ?_
 apply ay (by dsimp! [GG Cj,C.inst,C.az,HP (j6 h)])
 exact bj (by dsimp! [C.inst,bp C.az h]) q
theorem iz {d pb p w ix:Nat} {o:bJ} {σ:St} {Q:V→St→Prop} (hg:σ.get pb=some (.inst aa "Paths" [])) (hl:σ.len=pb+1) (hw:σ.get w=some (.list aa [.int o.a,.int o.b])) (hwp:w<pb) (ab:o.a<o.b)
  (q:∀σ',Gr σ pb [.inst aa "Paths" [("store",.ref p),("places",.ref (pb+1)),("index",.ref ix),("known",.ref (pb+2))],.dict aa 0 [(.int o.a,.int 0),(.int o.b,.int 1)],.dict aa 0 []] σ'→Q .none σ'):
  aw (d+1) (.m "Paths" "__init__") [.ref pb,.ref p,.ref w,.ref ix] σ Q:=by
 refine go ph rfl (dI rfl 2 (os':=[.inst aa "Paths" [("store",.ref p),("places",.ref (pb+1))],.dict aa 0 []]) rfl (Gr.one hg hl) λ s0 I=>?_)
 have hw':=(I.fr w hwp).trans hw
 refine dl (nW (n:=2) (by intro Q q;exact bH hw' rfl q) (by decide)) ?_
 show c2 _ _ [.int 0,.int 1] _ _ _
 refine ⟨trivial,?_⟩
 apply pN (v:=.int 0) (by dsimp!) (by dsimp! [(I.B.g 0 rfl)]) (by dsimp! [bO hw' rfl]) (I.B.g 1 rfl) rfl (show 0<aN by decide)
 have I:=I.put (i:=1) (o:=.dict aa 0 [(.int o.a,.int 0)]) (show 1<2 by decide)
 refine bE ⟨trivial,?_⟩
 have hw':=(I.fr w hwp).trans hw
 have e:bz [(V.int o.a,V.int 0)] (.int o.b) (.int 1)=[(.int o.a,.int 0),(.int o.b,.int 1)]:=if_neg λ e=>absurd (aO e) (J5 ab)
 apply pN (v:=.int 1) (by dsimp!) (by dsimp! [(I.B.g 0 rfl)]) (by dsimp! [bO hw' rfl]) (I.B.g 1 rfl) rfl (show 1<aN by decide)
 have I:=I.put (i:=1) (o:=.dict aa 0 (bz [(V.int o.a,V.int 0)] (.int o.b) (.int 1))) (show 1<2 by decide)
 rw [e] at I ⊢
 exact bE ⟨trivial,dI rfl 2 rfl I λ σ' J=>bE (q σ' J)⟩
theorem aS.all {α:Type} {P:α→V→Prop} {f:α→V}:∀{l:List α},(∀a∈l,P a (f a))→aS P l (l.map f)
 |[],_=>.nil
 |_::_,h=>.cons (Kl.mp h).1 (aS.all (Kl.mp h).2)
section
variable {σ0:St} {p x:Nat} {S:AS} {B:Nat} {o:bJ} {nl:List (V×V)} {fr0 fr1 mr0 mr1 hb cb:Nat} {cv iv pv ev:List V} {de:De} (L:eg σ0 p x S B o nl fr0 fr1 mr0 mr1 hb cb cv iv pv ev de) (ok:de.ok) (hs:S.size<90000) {pb:Nat} (hpb:pb=σ0.len+3∨pb=σ0.len+6)
include L ok hs hpb
omit ok in
theorem eg.cx:Cx.Ok ⟨σ0,σ0.len,p,pb,S,o⟩:=⟨rfl,L.C,L.ok,L.z,L.lib,hpb,hs⟩
omit hs hpb in
theorem eg.ld:Ld ⟨σ0,σ0.len,p,pb,S,o⟩ nl (B+26) hb de:=⟨L.F,L.M,ok⟩
theorem eg.meth {d:Nat} (t:Bool) (r:Mr) (hr:r∈de.m t):TF ⟨σ0,σ0.len,p,pb,S,o⟩ (d+12) (.g "method_told") [.ref pb,vi (mN nl t r)] (λ num=>mB num de t r):=by
 have O:=L.cx hs hpb
 have D:=L.ld ok (pb:=pb)
 unfold mB
 by_cases h:(⟨t,r⟩:cM)=de.held
 ·rw [show (λ num=>mT num r (if (⟨t,r⟩:cM)=de.held then ew num de else .tup []))=λ num=>mT num r (ew num de) from funext λ num=>by rw [if_pos h]]
  exact pH (d:=d+1) (bF:=λ num=>ew num de) O (D.M t r hr) (ok.mr t r hr) (.inr ⟨hb,if_pos h,BC (d:=d+1) O D L.body L.code L.cls L.codeP⟩)
 ·rw [show (λ num=>mT num r (if (⟨t,r⟩:cM)=de.held then ew num de else .tup []))=λ num=>mT num r (.tup []) from funext λ num=>by rw [if_neg h]]
  exact pH (d:=d+1) (bF:=λ yy=>.tup []) O (D.M t r hr) (ok.mr t r hr) (.inl ⟨if_neg h,rfl⟩)
theorem eg.mem {d:Nat} (y:cM) (hy:y.ok de.m0 de.m1):TF ⟨σ0,σ0.len,p,pb,S,o⟩ (d+12) (.g "member_name") [.ref pb,.int (hN nl y)] (λ num=>ek num y):=
 wk (d:=d+4) (L.cx hs hpb) ((L.ld ok (pb:=pb)).M y.t y.r hy) (ok.mr y.t y.r hy)
theorem eg.mp {d:Nat} (r:Mr) (hr:r∈de.m1) (a:Bool) (k:Int) (hk:c4 S.rows o (.cls true (ka a)) k):TF ⟨σ0,σ0.len,p,pb,S,o⟩ (d+12) (.g "method_path") [.ref pb,.tup [.int k,.int (mN nl true r),.tup []]] (λ num=>zC num (.cls true (ka a)) r []):=
 tW (d:=d+4) (L.cx hs hpb) ((L.ld ok (pb:=pb)).M true r hr) (ok.mr true r hr) hk (fc true a) .nil λ t h=>absurd h Kf
theorem eg.fld {d:Nat} (t:Bool) (r:Fr) (hr:r∈de.f t):TF ⟨σ0,σ0.len,p,pb,S,o⟩ (d+12) (.g "field_told") [.ref pb,vi (fN nl t r)] (λ num=>fT num r):=
 y5 (d:=d+6) (L.cx hs hpb) ((L.ld ok (pb:=pb)).F t r hr) (ok.fr t r hr)
theorem eg.tellA {d:Nat}:TF ⟨σ0,σ0.len,p,pb,S,o⟩ (d+13) (.g "type_told") [.ref pb,.int o.a] (λ num=>TA num de):=
 wh (c:=⟨σ0,σ0.len,p,pb,S,o⟩) (mF:=λ num=>mB num de false) (L.cx hs hpb) L.tA L.oA L.ttA L.f0 L.m0 L.impls L.props L.events (.all λ r hr=>L.fld ok hs hpb false r hr) (.all λ r hr=>L.meth ok hs hpb false r hr) L.implsP L.propsP L.eventsP (L.mem ok hs hpb) (L.mp ok hs hpb) (L.mem ok hs hpb _ ok.k0) (L.mem ok hs hpb _ ok.k1)
theorem eg.tellB {d:Nat}:TF ⟨σ0,σ0.len,p,pb,S,o⟩ (d+13) (.g "type_told") [.ref pb,.int o.b] (λ num=>TB num de):=
 wh (d:=d) (c:=⟨σ0,σ0.len,p,pb,S,o⟩) (nl:=nl) (m0:=de.m0) (m1:=de.m1) (is:=[]) (ps:=[]) (es:=[]) (cc:=0) (fi:=0) (cF:=λ yy=>.tup []) (fF:=λ yy=>.tup []) (mF:=λ num=>mB num de true) (L.cx hs hpb) L.tB L.oB L.ttB L.f1 L.m1 L.i1 L.p1 L.e1 (.all λ r hr=>L.fld ok hs hpb true r hr) (.all λ r hr=>L.meth ok hs hpb true r hr) .nil .nil .nil (L.mem ok hs hpb) (L.mp ok hs hpb) (ki (d:=d+11)) (ki (d:=d+11))
end
theorem wG {n:Nat} {i:Int}:pu n (.int i)=true:=by cases n<;>rfl
theorem wE {n:Nat} {i:String}:pu n (.str i)=true:=by cases n<;>rfl
theorem pc {n:Nat} {a:V} {l:List V} (h:pu n a=true) (h':pus n l=true):pus n (a::l)=true:=J6.mpr ⟨h,h'⟩
theorem wO {n:Nat} {a b c:V} {l:List V} (h1:pu n a=true) (h2:pu n b=true) (h3:pu n c=true) (h':pus n l=true):pus n (a::b::c::l)=true:=pc h1 (pc h2 (pc h3 h'))
theorem pt {n:Nat} {l:List V} (h:pus n l=true):pu (n+1) (.tup l)=true:=h
theorem n4 {num:K→Nat} (l:List K) (n:Nat):pus n (l.map λ t=>.int (num t:Nat))=true:=aY (f:=λ t=>.int (num t:Nat)) (λ yy=>wG) l
section
variable {num:K→Nat}
theorem Au {r:Mr}:pu 2 (tN num r)=true:=pt (n:=1) (wO rfl rfl rfl (pc rfl (pc (pt (n4 _ 0)) rfl)))
theorem eF {y:cM}:pu 3 (ek num y)=true:=pt (n:=2) (pc rfl (pc Au rfl))
theorem wF {o:K} {r:Mr} {as:List K}:pu 3 (zC num o r as)=true:=pt (n:=2) (wO rfl Au (pt (n4 as 1)) rfl)
theorem zj (c:Option Cd):pu 4 (uO num c)=true:=by
 cases c with
 |none=>rfl
 |some c=>cases c with
  |f t a r=>rfl
  |m t a r=>exact pt (n:=3) (pc rfl (pc wF rfl))
theorem wI {d:De}:pu 6 (ew num d)=true:=pt (n:=5) (wO rfl rfl (pt (aY (zj (num:=num)) (d.code.map some++[none]))) rfl)
theorem zi (n c:Nat):pus n (yE c)=true:=aY (λ yy=>wE) _
theorem t3 {n:Nat} {v:V} (h:pu n v=true):∀c,pus n (rep c [v])=true
 |0=>rfl
 |c+1=>pc h (t3 h c)
theorem F0 {d:De} {t:Bool} (r:Mr):pu 7 (mB num d t r)=true:=by
 have h6:pu 6 (if (⟨t,r⟩:cM)=d.held then ew num d else .tup [])=true:=by
  by_cases h:(⟨t,r⟩:cM)=d.held
  ·rw [if_pos h];exact wI
  ·rw [if_neg h];rfl
 exact pt (n:=6) (wO (pt (n:=5) (wO rfl rfl rfl (wO rfl (pt (aY (f:=V.str) (λ yy=>wE) _)) (pt (aY (f:=λ yy=>V.tup [.int 0,.tup []]) (λ yy=>rfl) _)) rfl))) (pt (n:=5) (wO rfl (pt (n4 _ 4)) (pt (zi 4 _)) (pc (pt (t3 wG _)) rfl))) h6 rfl)
theorem At {nm:String} {fs:List Fr} {ms:List Mr} {is:List Im} {ps es:List Pr} {d:De} {t:Bool} {cc fi:V} (h1:pu 3 cc=true) (h2:pu 3 fi=true):pu 20 (HK num nm (fs.map (fT num)) (ms.map (mB num d t)) (is.map (GY num)) (ps.map (Gb num)) (es.map (Hc num)) cc fi)=true:=by
 have u:∀{v:V},pu 3 v=true→pu 17 v=true:=bu 3 17 _ (by decide)
 have a1:∀r,pu 18 (GY num r)=true:=λ r=>show pus 17 [ek num r.b,zC num (.cls true (ka r.a)) r.r []]=true from pc (u eF) (pc (u wF) rfl)
 have a2:∀r,pu 18 (Gb num r)=true:=λ r=>show pus 17 [.str "p",.int (num (aT r.tm)),ek num r.x,ek num r.y,.tup []]=true from wO rfl rfl (u eF) (pc (u eF) rfl)
 have a3:∀r,pu 18 (Hc num r)=true:=λ r=>show pus 17 [.str "p",.int (num (aT r.tm)),ek num r.x,ek num r.y]=true from wO rfl rfl (u eF) (pc (u eF) rfl)
 exact pt (n:=19) (wO rfl rfl (pt (aY (f:=fT num) (λ yy=>rfl) _)) (wO (pt (aY (λ r=>bu 7 18 _ (by decide) (F0 r)) _)) (pt (aY a1 _)) (pt (aY a2 _)) (pc (pt (aY a3 _)) (pc (pt (n:=18) (pc (bu 3 18 _ (by decide) h1) (pc (bu 3 18 _ (by decide) h2) rfl))) rfl))))
theorem Ay {d:De}:pu 20 (TA num d)=true:=At eF eF
theorem Ax {d:De}:pu 20 (TB num d)=true:=At (is:=[]) (ps:=[]) (es:=[]) rfl rfl
end
theorem xQ {l:List K} {s t:K} (h1:s∈l) (h2:t∈l) (e:l.idxOf s=l.idxOf t):s=t:=by
 have g:∀{u:K},u∈l→l[l.idxOf u]? =some u:=λ h=>by rw [List.getElem?_eq_getElem (List.idxOf_lt_length_of_mem h),List.getElem_idxOf]
 exact J4 ((g h1).symm.trans (e▸g h2))
noncomputable def AA (I:List K) (t:K):Nat:=if t∈I then I.idxOf t else I.length+cA.idxOf t
theorem sV {I:List K} (nd:I.Nodup):∃num:K→Nat,Ag num I∧lT num:=by
 refine ⟨AA I,λ n t h=>?_,λ s hs t ht h=>?_⟩<;>unfold AA at*
 ·have hm:=Kh h
  rw [if_pos hm]
  exact cw nd (by rw [List.getElem?_eq_getElem (List.idxOf_lt_length_of_mem hm),List.getElem_idxOf]) h
 ·have lt:∀{u:K},u∈I→∀m,I.idxOf u≠I.length+m:=λ h m=>J5 (JS (List.idxOf_lt_length_of_mem h) (JU _ _))
  by_cases h1:s∈I
  ·by_cases h2:t∈I
   ·rw [if_pos h1,if_pos h2] at h;exact xQ h1 h2 h
   ·rw [if_pos h1,if_neg h2] at h;exact absurd h (lt h1 _)
  ·by_cases h2:t∈I
   ·rw [if_neg h1,if_pos h2] at h;exact absurd h.symm (lt h2 _)
   ·rw [if_neg h1,if_neg h2] at h;exact xQ hs ht (Lj h)
theorem TX.other {c c':Cx} {σ σ':St} {I I':List K} (X:TX c σ I σ' I') (O':c'.Ok) (P2:TZ c' σ I) (hE:c'.E=c.E) (h0:c'.σ0=c.σ0) (hne:∀i,i<3→c'.pb+i≠c.pb+2):TZ c' σ' I':=
 X.P.elim λ T P=>P2.elim λ T2 P2=>by
  have g:∀{i:Nat} {o:Mine.O},i<3→σ.get (c'.pb+i)=some o→σ'.get (c'.pb+i)=some o:=λ {i o} h e=>(X.fr.get _ (ac e) (hE▸J8 (JS (Kc _) (O'.E3 i))) (hne i h)).trans e
  exact ⟨T2,λ k hk=>h0▸P.same k (hE▸hk),hE▸P.ix,g (i:=0) (by decide) P2.inst,g (by decide) P2.places,P2.kn.imp λ l h=>⟨g (by decide) h.1,h.2.mono X.i λ yy yy h=>h⟩,P.nd,P.un,P2.tnd,P2.tun,JT P2.len X.fr.len⟩
theorem Gr.app {σ0 σ σ1:St} {b n:Nat} {os os':List Mine.O} {o:Mine.O} (I:Gr σ0 b os σ) (hn:b+os.length=n) (J:Gr (σ.new o) n os' σ1):Gr σ0 b (os++os') σ1:=by
 subst hn
 have lt:∀k,k<b+os.length→σ1.get k=σ.get k:=λ k h=>(J.fr k h).trans (aP (I.len▸h))
 exact ⟨c7.app (I.B.fr λ k yy h=>lt k h) J.B,by rw [J.len,List.length_append,Nat.add_assoc],λ k h=>(lt k (JS h (JU b _))).trans (I.fr k h)⟩
section
variable {C:ak} {ρ:ax} {σ:St} {vs:List V} {xs:List X} {f:String} {b:X} {op:yJ}
theorem zU {Q:Bool→St→Prop} (h:∀Q,Q vs σ→aI C xs ρ σ Q) (q:C (.g f) vs σ λ u σ1=>aH C b ρ σ1 λ v σ2=>bc op σ2 u v λ r=>Q r σ2):fe C (.cmp op (.call f xs) b) ρ σ Q:=h _ q
theorem jx {Q:V→St→Prop} (h:∀Q,Q vs σ→aI C xs ρ σ Q) (q:C (.g f) vs σ Q):aH C (.call f xs) ρ σ Q:=h _ q
end
theorem TX.low {c:Cx} {σ σ':St} {I I':List K} (O:c.Ok) (P:TZ c σ I) (X:TX c σ I σ' I') {k:Nat} (h:k<c.E+2):σ'.get k=σ.get k:=
 P.elim λ T P=>X.fr.get k (P.lt (JY h (J0 (by decide) c.E))) (J5 h) (J5 (JS (Kr h) (O.E3 2)))
theorem mO {D w w' i:Nat} {c c':Cx} {F F':(K→Nat)→V} {σ:St} {I:List K} {a a':V} {l l':List V} {x0 x1 x2 x3 x6:Option V} {Q:Bool→St→Prop} (T1:TF c D (.g "type_told") [.ref c.pb,a] F) (T2:TF c' D (.g "type_told") [.ref c'.pb,a'] F') (O:c.Ok) (O':c'.Ok) (P:TZ c σ I) (P':TZ c' σ I)
  (hE:c'.E=c.E) (h0:c'.σ0=c.σ0) (ne:∀i,i<3→c'.pb+i≠c.pb+2) (ne':∀i,i<3→c.pb+i≠c'.pb+2) (pF:∀num,pu 20 (F num)=true) (pF':∀num,pu 20 (F' num)=true)
  (hw:σ.get w=some (.list aa l)) (hl:c3 l (i:Nat)=some a) (hw':σ.get w'=some (.list aa l')) (hl':c3 l' (i:Nat)=some a') (hlo:w'<c.E+2)
  (q:∀b I2 s,TZ c s I2→TZ c' s I2→I<+:I2→σ.len≤s.len→(∀k,k<c.E+2→s.get k=σ.get k)→(∀num,Ag num I2→b=decide (F num=F' num))→Q (!b) s):
  fe (aw D) (.cmp .ne (.call "type_told" [.loc 7,.sub (.loc 4) (.loc 9)]) (.call "type_told" [.loc 8,.sub (.loc 5) (.loc 9)])) [x0,x1,x2,x3,some (.ref w),some (.ref w'),x6,some (.ref c.pb),some (.ref c'.pb),some (.int (i:Nat))] σ Q:=by
 apply zU (vs:=[.ref c.pb,a]) (by dsimp! [bO hw hl])
 refine T1 σ I _ P λ v1 I1 s1 X1 e1=>?_
 have P1':=X1.other O' P' hE h0 ne
 apply jx (vs:=[.ref c'.pb,a']) (by dsimp! [bO ((X1.low O P hlo).trans hw') hl'])
 refine T2 s1 I1 _ P1' λ v2 I2 s2 X2 e2=>?_
 have hf:∀num,Ag num I2→v1=F num∧v2=F' num:=λ num a=>⟨e1 num (a.mono X2.i),e2 num a⟩
 refine X2.P.elim λ T P2=>(sV P2.nd).elim λ num0 n0=>?_
 have e0:=hf num0 n0.1
 exact ua (e0.1▸pF num0) (e0.2▸pF' num0) (q (decide (v1=v2)) I2 s2 (X2.other O X1.P hE.symm h0.symm ne') X2.P (X1.i.trans X2.i) (JT X1.fr.len X2.fr.len) (λ k hk=>(X2.low O' P1' (hE.symm▸hk)).trans (X1.low O P hk)) λ num a=>by rw [(hf num a).1,(hf num a).2])
theorem Et {d:Nat} {σ0:St} {Q:V→St→Prop} {p x:Nat} {S:AS} {B:Nat} {o:bJ} {nl:List (V×V)} {fr0 fr1 mr0 mr1 hb cb:Nat} {cv iv pv ev:List V} {de:De} (L:eg σ0 p x S B o nl fr0 fr1 mr0 mr1 hb cb cv iv pv ev de) (ok:de.ok) (hs:S.size<90000)
  {p' x':Nat} {S':AS} {B':Nat} {o':bJ} {nl':List (V×V)} {fr0' fr1' mr0' mr1' hb' cb':Nat} {cv' iv' pv' ev':List V} {de':De} (L':eg σ0 p' x' S' B' o' nl' fr0' fr1' mr0' mr1' hb' cb' cv' iv' pv' ev' de') (ok':de'.ok) (hs':S'.size<90000)
  (q:∀σ',σ0.len≤σ'.len→(∀k,k<σ0.len→σ'.get k=σ0.get k)→Q (.bool (decide (De.alike de de'))) σ'):
  aw (d+14) (.g "same_defs") [.ref p,.int x,.ref p',.int x'] σ0 Q:=by
 have pos:∀{n:Nat},64≤n→0<n:=λ h=>JS (by decide) h
 refine go rJ rfl ?_
 apply ay (by
  intro Q q
  exact zU (pS rfl) (lF L.C L.asm (jx (pS rfl) (lF L'.C L'.asm (ua rfl rfl (by rw [decide_eq_true rfl];exact q))))))
 apply dj (pS rfl)
 refine AU (o:=o) L.C L.ok.ab (pos L.ok.la) L.tA L.tB L.only hs λ s1 l1 g1 f1=>?_
 have I:Gr σ0 σ0.len [.list aa [.int o.a,.int o.b]] s1:=⟨c7.one g1,l1,f1⟩
 apply dj (pS rfl)
 refine AU (o:=o') (L'.C.frame' (by rw [l1];exact Kt _) λ k a b=>f1 k b) L'.ok.ab (pos L'.ok.la) L'.tA L'.tB L'.only hs' λ s2 l2 g2 f2=>?_
 have I:=I.ext l2 g2 f2
 rw [l1]
 apply ay (by dsimp! [bH (I.B.g 0 rfl) rfl,bH (I.B.g 1 rfl) rfl,EM rfl])
 apply setN (v:=.ref (σ0.len+2)) (λ Q q=>kX (o:=.dict aa 2 []) rfl Q (by rw [I.len];exact q))
 have I:=I.new (o:=.dict aa 2 [])
 refine bq (sI (n:=σ0.len+3) (vs:=[.ref p,.ref σ0.len,.ref (σ0.len+2)]) (pS rfl) I.len ?_)
 refine iz (o:=o) (gY I.len.symm) (eb I.len) (bT (I.B.g 0 rfl)) (KD (by decide)) L.ok.ab λ s4 J=>⟨rfl,?_⟩
 have I:=I.app rfl J
 refine bq (sI (n:=σ0.len+6) (vs:=[.ref p',.ref (σ0.len+1),.ref (σ0.len+2)]) (pS rfl) I.len ?_)
 refine iz (o:=o') (gY I.len.symm) (eb I.len) (bT (I.B.g 1 rfl)) (J0 (by decide) _) L'.ok.ab λ s5 J=>⟨rfl,?_⟩
 have I:=I.app rfl J
 clear l1 g1 f1 l2 g2 f2 J
 have nn:∀t∈([]:List K),t∈cA:=λ yy h=>absurd h Kf
 have hlen:σ0.len+9≤s5.len:=J3 I.len.symm
 have P1:TZ ⟨σ0,σ0.len,p,σ0.len+3,S,o⟩ s5 []:=⟨[],I.fr,⟨[],I.B.g 2 rfl,.nil⟩,I.B.g 3 rfl,I.B.g 4 rfl,⟨[],I.B.g 5 rfl,.nil⟩,KL,nn,KL,nn,hlen⟩
 have P2:TZ ⟨σ0,σ0.len,p',σ0.len+6,S',o'⟩ s5 []:=⟨[],I.fr,⟨[],I.B.g 2 rfl,.nil⟩,I.B.g 6 rfl,I.B.g 7 rfl,⟨[],I.B.g 8 rfl,.nil⟩,KL,nn,KL,nn,hlen⟩
 have O1:=L.cx hs (pb:=σ0.len+3) (.inl rfl)
 have O2:=L'.cx hs' (pb:=σ0.len+6) (.inr rfl)
 have n1:∀i,i<3→σ0.len+6+i≠σ0.len+3+2:=λ i yy=>J8 (JS (Kc (σ0.len+5)) (JU _ i))
 have n2:∀i,i<3→σ0.len+3+i≠σ0.len+6+2:=λ i h=>J5 (JY (J0 h _) (J0 (by decide:6<8) σ0.len))
 have w0:=I.B.g 0 rfl
 have w1:=I.B.g 1 rfl
 have fr:=I.fr
 clear I
 refine dl (nW (n:=2) (by intro Q q;exact bH w0 rfl q) (by decide)) ?_
 show c2 _ _ [.int 0,.int 1] _ _ _
 have fin:∀{s:St} {r:Bool},σ0.len≤s.len→(∀k,k<σ0.len→s.get k=σ0.get k)→decide (De.alike de de')=r→Q (.bool r) s:=λ h1 h2 e=>e▸q _ h1 h2
 have no:∀{num:K→Nat},TA num de≠TA num de'∨TB num de≠TB num de'→decide (De.alike de de')=false:=λ h=>K3 λ e=>h.elim (λ h=>h (gx e).1) λ h=>h (gx e).2
 refine ⟨trivial,ck (mO (i:=0) (L.tellA ok hs (d:=d) (.inl rfl)) (L'.tellA ok' hs' (d:=d) (.inr rfl)) O1 O2 P1 P2 rfl rfl n1 n2 (λ yy=>Ay) (λ yy=>Ay) w0 rfl w1 rfl (Kc _) λ b I2 s6 P1 P2 i2 l6 f6 e6=>?_)⟩
 have l6:σ0.len≤s6.len:=JT (JT (JU _ 9) hlen) l6
 have f60:∀k,k<σ0.len→s6.get k=σ0.get k:=λ k h=>(f6 k (Ks 2 h)).trans (fr k h)
 cases b with
 |false=>
  refine P1.elim λ T1 P=>(sV P.nd).elim λ num n=>?_
  exact bj (pX rfl) (fin l6 f60 (no (.inl (of_decide_eq_false (e6 num n.1).symm))))
 |true=>
  refine bE ⟨trivial,ck (mO (i:=1) (L.tellB ok hs (d:=d) (.inl rfl)) (L'.tellB ok' hs' (d:=d) (.inr rfl)) O1 O2 P1 P2 rfl rfl n1 n2 (λ yy=>Ax) (λ yy=>Ax) ((f6 _ (KD (by decide))).trans w0) rfl ((f6 _ (Kc _)).trans w1) rfl (Kc _) λ b I4 s9 P3 P4 i4 l9 f9 e9=>?_)⟩
  have l9:σ0.len≤s9.len:=JT l6 l9
  have f90:∀k,k<σ0.len→s9.get k=σ0.get k:=λ k h=>(f9 k (Ks 2 h)).trans (f60 k h)
  refine P3.elim λ T1 P=>(sV P.nd).elim λ num n=>?_
  have eA:=J9 (e6 num (n.1.mono i4)).symm
  cases b with
  |false=>exact bj (pX rfl) (fin l9 f90 (no (.inr (of_decide_eq_false (e9 num n.1).symm))))
  |true=>exact bE ⟨trivial,bj (pX rfl) (fin l9 f90 (KZ (mL n.2 ok ok' eA (J9 (e9 num n.1).symm))))⟩
structure Fw (w:Nat) (σ σ':St):Prop where
 len:σ.len≤σ'.len
 get:∀k,k<σ.len→k≠w→σ'.get k=σ.get k
structure Fl (w e:Nat) (σ σ':St):Prop where
 len:σ.len≤σ'.len
 get:∀k,k<σ.len→k≠w→(k<e∨e+14≤k)→σ'.get k=σ.get k
structure Fa (σ σ':St):Prop where
 len:σ.len≤σ'.len
 get:∀k,k<σ.len→σ'.get k=σ.get k
theorem Fa.w {w:Nat} {σ σ':St} (a:Fa σ σ'):Fw w σ σ':=⟨a.len,λ k h yy=>a.get k h⟩
theorem W.fa {σ σ':St} {w m:Nat} (h:W σ w m) (F:Fa σ σ'):W σ' w m:=h.frame F.len λ n hn=>F.get n (JV hn h.lt)
theorem Fw.trans {w:Nat} {σ σ' σ'':St} (a:Fw w σ σ') (b:Fw w σ' σ''):Fw w σ σ'':=⟨JT a.len b.len,λ k h1 h2=>(b.get k (JS h1 a.len) h2).trans (a.get k h1 h2)⟩
theorem Fw.l {w e:Nat} {σ σ':St} (a:Fw w σ σ'):Fl w e σ σ':=⟨a.len,λ k h1 h2 yy=>a.get k h1 h2⟩
noncomputable def Av (S:AS) (lib e:Nat):Prop:=(∀i n a:Nat,S.tz[i]? =some (some (n,a))→n<e∨e+14≤n)∧∀n a:Nat,S.tz[lib]? =some (some (n,a))→n+10≤e
theorem WS.av {σ:St} {p lib e:Nat} {S:AS} (W:WS σ p S lib) (h:σ.len=e):Av S lib e:=
 ⟨λ i n a e'=>.inl (h▸(W.C.ti i n a e').2.1),λ n a e'=>W.l.elim λ nL l=>l.elim λ aL l=>l.elim λ fr l=>l.elim λ mr l=>by
  have e2:=J4 (J4 (l.1.symm.trans e'))
  have e3:nL=n:=congrArg Prod.fst e2
  rw [←e3,←h];exact l.2.2.2.2.2⟩
section
variable {σ σ':St} {p lib e w x:Nat} {S:AS}
theorem fZ.frameX (L:fZ σ p S lib) (av:Av S lib e) (F:Fl w e σ σ') (hw:w<p):fZ σ' p S lib:=
 L.imp λ nL h=>h.imp λ aL h=>h.imp λ fr h=>h.imp λ mr h=>by
  have hn:=av.2 _ _ h.1
  have hp:=h.2.2.2.2.1
  have g:∀k,nL≤k→k<nL+10→σ'.get k=σ.get k:=λ k a b=>F.get k (JS b h.2.2.2.2.2) (J8 (JS (JS hw (JU p 14)) (JT hp a))) (.inl (JS b hn))
  exact ⟨h.1,h.2.1,(g nL (Kd _) (KD (by decide))).trans h.2.2.1,h.2.2.2.1.frame F.len λ k a b=>g k (Kx a) (JY b (J0 (by decide) nL)),hp,JT h.2.2.2.2.2 F.len⟩
theorem SC.frameX (C:SC σ p S) (av:Av S lib e) (he:p+14≤e) (F:Fl w e σ σ') (hw:w<p):SC σ' p S:=by
 refine C.frame F.len (λ k a b=>F.get k (JS b C.len) (J8 (JS hw a)) (.inl (JS b he))) λ i n a e'=>?_
 have t:=C.ti i n a e'
 exact t.2.2.imp λ as b=>⟨(F.get n t.2.1 (J8 (JS (JS hw (JU p 14)) t.1)) (av.1 i n a e')).trans b.1,b.2⟩
theorem WS.frame (W:WS σ p S lib) (F:Fw w σ σ') (hw:w<p):WS σ' p S lib:=
 have g:∀k,p≤k→k<σ.len→σ'.get k=σ.get k:=λ k a b=>F.get k b (J8 (JS hw a))
 ⟨W.C.frame' F.len g,W.l.mono .rfl' F.len λ k a b=>g k (JT (JU p 14) a) b,W.l1,W.l2,W.asm,W.z⟩
theorem WS.frameX (W:WS σ p S lib) (F:Fl w e σ σ') (hw:w<p) (he:e+14≤p):WS σ' p S lib:=
 have g:∀k,p≤k→k<σ.len→σ'.get k=σ.get k:=λ k a b=>F.get k b (J8 (JS hw a)) (.inr (JT he a))
 ⟨W.C.frame' F.len g,W.l.mono .rfl' F.len λ k a b=>g k (JT (JU p 14) a) b,W.l1,W.l2,W.asm,W.z⟩
end
inductive HB (σ:St) (p x:Nat) (S:AS) (d:De):Prop
 |mk {B o nl fr0 fr1 mr0 mr1 hb cb cv iv pv ev}:eg σ p x S B o nl fr0 fr1 mr0 mr1 hb cb cv iv pv ev d→HB σ p x S d
inductive EI (σ:St) (p x e:Nat) (d:De):Prop
 |mk {S B o nl fr0 fr1 mr0 mr1 hb cb cv iv pv ev}:eg σ p x S B o nl fr0 fr1 mr0 mr1 hb cb cv iv pv ev d→S.size<90000→Av S o.l e→p+14≤e→e+14≤B→EI σ p x e d
inductive jl (σ:St) (p x:Nat) (d:De):Prop
 |mk {S}:HB σ p x S d→S.size<90000→jl σ p x d
section
variable {σ σ':St} {p x e w:Nat} {S:AS} {d:De}
theorem EI.frame (L:EI σ p x e d) (F:Fl w e σ σ') (hw:w<p):EI σ' p x e d:=by
 cases L with
 |mk L hs av he heB=>exact .mk (L.frameG (L.C.frameX av he F hw) (L.lib.frameX av F hw) .rfl' F.len (λ k a b=>F.get k b (J8 (JS (JS hw (JT (JU p 14) L.b)) a)) (.inr (JT heB a))) λ yy yy e=>e) hs av he heB
theorem EI.at (L:EI σ p x e d):jl σ p x d:=by
 cases L with
 |mk L hs _ _ _=>exact .mk (.mk L) hs
theorem jl.frame (L:jl σ p x d) (F:Fw w σ σ') (hw:w<p):jl σ' p x d:=by
 have g:∀k,p≤k→k<σ.len→σ'.get k=σ.get k:=λ k a b=>F.get k b (J8 (JS hw a))
 cases L with
 |mk L hs=>cases L with
  |mk L=>exact .mk (.mk (L.frame (L.C.frame' F.len g) .rfl' F.len (λ k a b=>g k (JT (JU p 14) a) b) λ yy yy e=>e)) hs
end
theorem oP {d p x p' x':Nat} {de de':De} {σ:St} {Q:V→St→Prop} (L:jl σ p x de) (L':jl σ p' x' de') (ok:de.ok) (ok':de'.ok)
  (q:∀σ',Fa σ σ'→Q (.bool (decide (De.alike de de'))) σ'):aw (d+14) (.g "same_defs") [.ref p,.int x,.ref p',.int x'] σ Q:=by
 cases L with
 |mk L hs=>cases L with
  |mk L=>cases L' with
   |mk L' hs'=>cases L' with
    |mk L'=>exact Et L ok hs L' ok' hs' λ σ' hl hf=>q σ' ⟨hl,hf⟩
theorem tO {c d:De}:decide (De.alike c d)=decide (De.alike d c):=by
 have s:∀{c d:De},De.alike c d→De.alike d c:=λ h=>⟨⟨h.1.1.symm,h.1.2.symm⟩,⟨h.2.1.1.symm,h.2.1.2.symm⟩,h.2.2.1.symm,h.2.2.2.1.symm,⟨h.2.2.2.2.1.1.symm,h.2.2.2.2.1.2.symm⟩,h.2.2.2.2.2.1.symm,h.2.2.2.2.2.2.1.symm,h.2.2.2.2.2.2.2.symm⟩
 exact Lf.mpr ⟨s,s⟩
theorem uG {d w m p x p' x':Nat} {de de':De} {σ:St} {Q:V→St→Prop} (h:W σ w m) (hm:m<90000) (L:jl σ p x de) (L':jl σ p' x' de') (hp:w<p) (hp':w<p') (ok:de.ok) (ok':de'.ok)
  (q:∀σ',W σ' w (m+1)→Fw w σ σ'→Q (.bool (decide (De.alike de de'))) σ'):aw (d+15) (.g "_law_ask") [.ref w,.ref p,.int x,.ref p',.int x'] σ Q:=by
 refine go vG rfl (ck (Fk (pS rfl) (d0 (d:=d+13) 2 h rfl (by decide) (JY hm (by decide)) λ z hz σ1 W1 l1 f1=>?_)))
 have F1:Fw w σ σ1:=⟨J3 l1.symm,λ k yy h=>f1 k h⟩
 have L1:=L.frame F1 hp
 have L1':=L'.frame F1 hp'
 by_cases hz0:z=0
 ·exact pE (congrArg Int.ofNat hz0) (nX (pS rfl) (oP L1 L1' ok ok' λ σ2 F2=>q σ2 (W1.fa F2) (F1.trans F2.w)))
 ·exact pD (i0 hz0) (nX (pS rfl) (oP L1' L1 ok' ok λ σ2 F2=>tO (c:=de)▸q σ2 (W1.fa F2) (F1.trans F2.w)))
theorem EC {σ':St} {p x e:Nat} {S S':AS} {B:Nat} {o:bJ} {nl:List (V×V)} {fr0 fr1 mr0 mr1 hb cb:Nat} {cv iv pv ev:List V} {d:De} {lib:Nat} (av:Av S lib e) (L:eg σ' p x S' B o nl fr0 fr1 mr0 mr1 hb cb cv iv pv ev d) (hS:S.le S') (hlib:lib<S.tz.length) (heB:e+14≤B)
  (ho:∀i n a:Nat,S'.tz[i]? =some (some (n,a))→a≠x→S.tz[i]? =some (some (n,a))):Av S' lib e:=by
 refine ⟨λ i n a h=>?_,λ n a h=>?_⟩
 ·by_cases hx:a=x
  ·subst hx
   have fin:∀{j:Nat},(some (some (B+j,a)):Option (Option (Nat×Nat)))=some (some (n,a))→n<e∨e+14≤n:=λ {j} h=>.inr ((show B+j=n from congrArg Prod.fst (J4 (J4 h)))▸JT heB (JU B j))
   rcases L.only i n h with e1|e1
   ·subst e1;exact fin (L.tA.symm.trans h)
   ·subst e1;exact fin (L.tB.symm.trans h)
  ·exact av.1 i n a (ho i n a h hx)
 ·have e1:S.tz[lib]? =some S.tz[lib]:=JZ hlib
  exact av.2 n a (e1.trans ((ba hS.tz e1).symm.trans h))
inductive Dx (σ:St) (lo:Nat) (R:Rf) (d:De):Prop
 |mk {l h:Nat}:lo≤l→cg σ R l h d→Dx σ lo R d
theorem Dx.frame {σ σ':St} {lo w e:Nat} {R:Rf} {d:De} (D:Dx σ lo R d) (F:Fl w e σ σ') (hw:w<lo) (he:e+14≤lo):Dx σ' lo R d:=by
 cases D with
 |mk hl D=>exact .mk hl (D.frame F.len λ k a b=>F.get k (JS b D.len) (J8 (JS (JS hw hl) a)) (.inr (JT he (JT hl a))))
theorem xp {d w m pb lib:Nat} {R:Rf} {de:De} {S:AS} {σ:St} {Q:V→St→Prop} (Wd:WS σ pb S lib) (D:Dx σ (pb+14) R de) (ok:de.ok) (hs:S.size<20000) (hw:W σ w m) (hm:m<80000) (hwp:w<pb)
  (q:∀σ' S',HB σ' pb S.az.length S' de→WS σ' pb S' lib→S'.size≤S.size+200→S'.az.length=S.az.length+1→W σ' w (m+1)→Fl w pb σ σ'→(∀x' de',HB σ pb x' S de'→x'<S.az.length→HB σ' pb x' S' de')→Q (.int S.az.length) σ'):
  aw (d+15) (.g "_law_draw") [.ref w,.int 64] σ λ t σ1=>aw (d+15) (.g "_law_lay") [.ref pb,.int lib,.ref R.q,t] σ1 Q:=by
 refine d0 (d:=d+14) 64 hw rfl (by decide) (JY hm (by decide)) λ t ht σ1 W1 l1 f1=>?_
 have F1:Fw w σ σ1:=⟨J3 l1.symm,λ k yy h=>f1 k h⟩
 have Wd1:=Wd.frame F1 hwp
 have D1:=D.frame (F1.l (e:=pb)) (JS hwp (JU pb 14)) (Kd _)
 cases D1 with
 |mk hl D1=>
  refine AV (d:=d+3) Wd1 D1 (.inr hl) ok hs λ σ2 S2 o nl fr0 fr1 mr0 mr1 hb cb cv iv pv ev L2 ol W2 le2 sz2 as2 ln2 f2 ho2=>?_
  have wl:=W1.lt
  refine q σ2 S2 (.mk L2) W2 sz2 as2 (W1.frame ln2 λ n hn=>f2 n (JV hn wl) (.inl (JV hn hwp))) ⟨JT F1.len ln2,λ k a b c=>(f2 k (JS a F1.len) c).trans (F1.get k a b)⟩ λ x' de' Lx hx=>?_
  have g:∀k,pb≤k→k<σ.len→σ1.get k=σ.get k:=λ k a b=>F1.get k b (J8 (JS hwp a))
  cases Lx with
  |mk L=>
   have La:=L.frame (L.C.frame' F1.len g) .rfl' F1.len (λ k a b=>g k (JT (JU pb 14) a) b) λ yy yy e=>e
   exact .mk (La.frame W2.C le2 ln2 (λ k a b=>f2 k b (.inr a)) λ i n h=>ho2 i n x' h (J5 hx))
theorem W.fl {σ σ':St} {w m e:Nat} (h:W σ w m) (hl:σ.len≤σ'.len) (F:∀k,k<σ.len→(k<e∨e+14≤k)→σ'.get k=σ.get k) (hw:w<e):W σ' w m:=h.frame hl λ n hn=>F n (JV hn h.lt) (.inl (JV hn hw))
theorem Jl {σ:St} {b:Bool} {Q:Bool→Prop} (q:Q false):bc .ne σ (.bool b) (.bool b) Q:=by
 unfold bc
 exact uC (Q:=λ r=>Q (!r)) (by cases b<;>exact q)
theorem JP {σ:St} {b:Bool} {Q:Bool→Prop} (q:Q true):bc .eq σ (.bool b) (.bool b) Q:=by
 unfold bc
 exact uC (by cases b<;>exact q)
structure Ak (σ:St) (w m pa xa pb y u v:Nat) (R1 R2 R3:Rf) (d1 d2 d3:De):Prop where
 W:W σ w m
 x:jl σ pa xa d1
 y:jl σ pb y d1
 u:jl σ pb u d2
 v:jl σ pb v d3
 a:Dx σ (pb+14) R1 d1
 b:Dx σ (pb+14) R2 d2
 c:Dx σ (pb+14) R3 d3
 wa:w<pa
 wb:w<pb
section
variable {σ σ':St} {d w m m' pa xa pb y u v:Nat} {R1 R2 R3:Rf} {d1 d2 d3:De}
theorem Ak.step (A:Ak σ w m pa xa pb y u v R1 R2 R3 d1 d2 d3) (hw:Mine.L3.W σ' w m') (F:Fw w σ σ'):Ak σ' w m' pa xa pb y u v R1 R2 R3 d1 d2 d3:=
 have wl:w<pb+14:=JS A.wb (JU pb 14)
 ⟨hw,A.x.frame F A.wa,A.y.frame F A.wb,A.u.frame F A.wb,A.v.frame F A.wb,A.a.frame (F.l (e:=pb)) wl (Kd _),A.b.frame (F.l (e:=pb)) wl (Kd _),A.c.frame (F.l (e:=pb)) wl (Kd _),A.wa,A.wb⟩
theorem Ak.fa (A:Ak σ w m pa xa pb y u v R1 R2 R3 d1 d2 d3) (F:Fa σ σ'):Ak σ' w m pa xa pb y u v R1 R2 R3 d1 d2 d3:=A.step (A.W.fa F) F.w
theorem tP {lo lo':Nat} {R R':Rf} {c e:De} {Q:V→St→Prop} (D:Dx σ lo R c) (D':Dx σ lo' R' e) (okc:c.ok) (oke:e.ok) (k:∀σ',Fa σ σ'→Q (.bool (decide (De.alike c e))) σ'):aw (d+2) (.g "_law_alike") [.ref R.q,.ref R'.q] σ Q:=by
 cases D with
 |mk _ D=>cases D' with
  |mk _ D'=>exact zX D D' okc oke λ σ' h1 h2=>k σ' ⟨h1,h2⟩
theorem lR (d:De):decide (De.alike d d)=true:=KZ ⟨⟨rfl,rfl⟩,⟨rfl,rfl⟩,rfl,rfl,⟨rfl,rfl⟩,rfl,rfl,rfl⟩
theorem xv {la lb:Nat} {a b:Option V} {Q:V→St→Prop} (A:Ak σ w m pa xa pb y u v R1 R2 R3 d1 d2 d3) (hm:m<80000) (o1:d1.ok) (o2:d2.ok) (o3:d3.ok) (q:∀σ',Q (.bool true) σ'):
  ah (aw (d+15)) (jh.drop 12) [a,b,some (.ref w),some (.ref pa),some (.int la),some (.ref pb),some (.int lb),some (.ref R1.q),some (.ref R2.q),some (.ref R3.q),some (.int (xa:Nat)),some (.int (y:Nat)),some (.int (u:Nat)),some (.int (v:Nat))] σ (λ o yy σ'=>Q (cp o) σ'):=by
 have lt:∀{m i:Nat},m<80000+i→i≤5→m<90000:=λ h hi=>JS h (JT (JW hi _) (by decide))
 refine ck (Fk (pS rfl) (uG A.W (lt (i:=0) hm (by decide)) A.x A.y A.wa A.wb o1 o1 λ s1 h1 F1=>?_))
 have A:=A.step h1 F1
 rw [lR]
 refine sg ?_
 refine zU (pS rfl) (uG A.W (lt (i:=1) (Kz hm) (by decide)) A.x A.u A.wa A.wb o1 o2 λ s2 h2 F2=>?_)
 have A:=A.step h2 F2
 refine jx (pS rfl) (tP A.a A.b o1 o2 λ s3 F3=>Jl ?_)
 have A:=A.fa F3
 refine ck ?_
 refine zU (pS rfl) (uG A.W (lt (i:=2) (Kz (Kz hm)) (by decide)) A.y A.v A.wb A.wb o1 o3 λ s4 h4 F4=>?_)
 have A:=A.step h4 F4
 refine jx (pS rfl) (tP A.a A.c o1 o3 λ s5 F5=>Jl ?_)
 have A:=A.fa F5
 refine Fk (pS rfl) (oP A.v A.v o3 o3 λ s6 F6=>?_)
 have A:=A.fa F6
 rw [lR]
 refine sg ?_
 refine dz ?_
 refine jx (pS rfl) (uG A.W (lt (i:=3) (Kz (Kz (Kz hm))) (by decide)) A.u A.v A.wb A.wb o2 o3 λ s7 h7 F7=>?_)
 have A:=A.step h7 F7
 exact jx (pS rfl) (tP A.b A.c o2 o3 λ s8 F8=>JP (q s8))
end
theorem xr {d w m pa la pb lb:Nat} {Sa Sb:AS} {R1 R2 R3:Rf} {d1 d2 d3:De} {σ:St} {a b:Option V} {Q:V→St→Prop} (hw:W σ w m) (hm:m<1000) (A:WS σ pa Sa la) (av:Av Sa la pb) (szA:Sa.size≤500) (B:WS σ pb Sb lb) (szB:Sb.size≤500) (D1:Dx σ (pb+14) R1 d1) (D2:Dx σ (pb+14) R2 d2) (D3:Dx σ (pb+14) R3 d3)
  (wa:w<pa) (hab:pa+14≤pb) (o1:d1.ok) (o2:d2.ok) (o3:d3.ok) (q:∀σ',Q (.bool true) σ'):
  ah (aw (d+15)) (jh.drop 8) [a,b,some (.ref w),some (.ref pa),some (.int (la:Nat)),some (.ref pb),some (.int (lb:Nat)),some (.ref R1.q),some (.ref R2.q),some (.ref R3.q),none,none,none,none] σ (λ o yy σ'=>Q (cp o) σ'):=by
 have wb:w<pb:=JS wa (JT (JU pa 14) hab)
 have wl:w<pb+14:=JS wb (JU pb 14)
 have hab':pa+14≤pb+14:=JT hab (JU pb 14)
 have sm:∀{n k:Nat},n≤500+k→k≤600→n<20000:=λ h hk=>JV h (JV (JW hk 500) (by decide))
 have mm:∀{m k:Nat},m<1000+k→k≤4→m<80000:=λ h hk=>JS h (JT (JW hk _) (by decide))
 apply bq
 apply cy
 apply aE (pX rfl)
 apply aE (pX rfl)
 apply aE (pX rfl)
 apply gZ (pS rfl)
 refine d0 (d:=d+14) 64 hw rfl (by decide) (JY hm (by decide)) λ t ht σ1 W1 l1 f1=>?_
 have F1:Fw w σ σ1:=⟨J3 l1.symm,λ k yy h=>f1 k h⟩
 have A1:=A.frame F1 wa
 have B1:=B.frame F1 wb
 have E1:=D1.frame (F1.l (e:=pb)) wl (Kd _)
 have E2:=D2.frame (F1.l (e:=pb)) wl (Kd _)
 have E3:=D3.frame (F1.l (e:=pb)) wl (Kd _)
 have hb1:=B1.C.len
 clear A B D1 D2 D3 hw F1 l1 f1
 cases id E1 with
 |mk hl D=>
  refine AV (d:=d+3) A1 D (.inr (JT hab' hl)) o1 (sm (k:=0) szA (by decide)) λ σ2 S2 o nl fr0 fr1 mr0 mr1 hb cb cv iv pv ev L2 ol A2 le2 sz2 as2 ln2 f2 ho2=>?_
  have X2:EI σ2 pa Sa.az.length pb d1:=.mk L2 (JV sz2 (JV (Ki szA 200) (by decide))) (ol▸EC av L2 le2 A1.l2 hb1 ho2) hab hb1
  have W2:=W1.fl ln2 f2 wa
  have F2:Fl w pa σ1 σ2:=⟨ln2,λ k h1 yy h3=>f2 k h1 h3⟩
  have B2:=B1.frameX F2 wb hab
  have G1:=E1.frame F2 wl hab'
  have G2:=E2.frame F2 wl hab'
  have G3:=E3.frame F2 wl hab'
  clear L2 A1 A2 B1 E1 E2 E3 ho2 le2 D f2 F2 as2 sz2
  apply bq
  apply cy
  apply aE (pX rfl)
  apply aE (pX rfl)
  apply aE (pX rfl)
  apply gZ (pS rfl)
  refine xp B2 G1 o1 (sm (k:=0) szB (by decide)) W2 (mm (k:=1) (Kz hm) (by decide)) wb λ σ3 S3 y3 B3 sz3 as3 W3 F3 old3=>?_
  have X3:=X2.frame F3 wa
  have G1:=G1.frame F3 wl (Kd _)
  have G2:=G2.frame F3 wl (Kd _)
  have G3:=G3.frame F3 wl (Kd _)
  have sz3:S3.size≤500+200:=JT sz3 (Ki szB 200)
  clear old3 X2 F3
  apply bq
  apply cy
  apply aE (pX rfl)
  apply aE (pX rfl)
  apply aE (pX rfl)
  apply gZ (pS rfl)
  refine xp B3 G2 o2 (sm (k:=200) sz3 (by decide)) W3 (mm (k:=2) (Kz (Kz hm)) (by decide)) wb λ σ4 S4 u4 B4 sz4 as4 W4 F4 old4=>?_
  have X4:=X3.frame F4 wa
  have y4:=old4 _ _ y3 (by rw [as3];exact Kc _)
  have G1:=G1.frame F4 wl (Kd _)
  have G2:=G2.frame F4 wl (Kd _)
  have G3:=G3.frame F4 wl (Kd _)
  have sz4:S4.size≤500+400:=JT sz4 (Ki sz3 200)
  clear old4 X3 F4 y3
  apply bq
  apply cy
  apply aE (pX rfl)
  apply aE (pX rfl)
  apply aE (pX rfl)
  apply gZ (pS rfl)
  refine xp B4 G3 o3 (sm (k:=400) sz4 (by decide)) W4 (mm (k:=3) (Kz (Kz (Kz hm))) (by decide)) wb λ σ5 S5 v5 B5 sz5 as5 W5 F5 old5=>?_
  have sz5:S5.size<90000:=JV (JT sz5 (Ki sz4 200)) (by decide)
  have s3:Sb.az.length<S4.az.length:=by rw [as4,as3];exact Kr (Kc _)
  exact xv (d:=d) ⟨W5,(X4.frame F5 wa).at,.mk (old5 _ _ y4 s3) sz5,.mk (old5 _ _ u4 (by rw [as4];exact Kc _)) sz5,.mk v5 sz5,G1.frame F5 wl (Kd _),G2.frame F5 wl (Kd _),G3.frame F5 wl (Kd _),wa,wb⟩ (mm (k:=4) (Kz (Kz (Kz (Kz hm)))) (by decide)) o1 o2 o3 q
theorem xq {d w:Nat} {σ:St} {a b:Option V} {Q:V→St→Prop} (hw:W σ w 0) (q:∀σ',Q (.bool true) σ'):ah (aw (d+15)) (jh.drop 3) [a,b,some (.ref w),none,none,none,none,none,none,none,none,none,none,none] σ (λ o yy σ'=>Q (cp o) σ'):=by
 have wl:=hw.lt
 refine bq (jx (vs:=[.int 0]) (pS rfl) (uE (d:=d+6) (junk:=0) (by decide) λ la Sa σ1 A1 szA ln1 f1=>⟨rfl,?_⟩))
 have W1:=hw.frame ln1 λ n hn=>f1 n (JV hn wl)
 have hpa:=A1.C.len
 generalize σ.len=pa at*
 apply bq
 apply cy
 show aH _ (.call "_law_draw" _) _ σ1 λ v σ2=>iD .add (.int 1) v σ2 _
 refine jx (vs:=[.ref w,.int 2]) (pS rfl) (d0 (d:=d+14) 2 W1 rfl (by decide) (by decide) λ z hz σ2 W2 l2 f2=>?_)
 have F2:Fw w σ1 σ2:=⟨J3 l2.symm,λ k yy h=>f2 k h⟩
 have A2:=A1.frame F2 wl
 have av:=A2.av rfl
 have hab:pa+14≤σ2.len:=A2.C.len
 show aw (d+15) (.g "_law_world") [.int ((1+z:Nat):Int)] σ2 _
 refine uE (d:=d+6) (junk:=1+z) (JW (KV hz) 1) λ lb Sb σ3 B3 szB ln3 f3=>⟨rfl,?_⟩
 have W3:=W2.frame ln3 λ n hn=>f3 n (JV hn W2.lt)
 have F3:Fw w σ2 σ3:=⟨ln3,λ k h yy=>f3 k h⟩
 have A3:=A2.frame F3 wl
 generalize σ2.len=pb at*
 have wb:w<pb:=JS wl (JT (JU pa 14) hab)
 have wb':w<pb+14:=JS wb (JU pb 14)
 have hpb:=B3.C.len
 clear A1 A2 f1 f2 f3 F2 F3 W1 W2 hw
 apply dj (vs:=[.ref w]) (pS rfl)
 refine rB (d:=d+11) W3 (by decide) λ d1 R σ4 o1 D4 ln4 W4 f4=>?_
 have F4:Fw w σ3 σ4:=⟨by rw [ln4];exact JU _ _,f4⟩
 have A4:=A3.frame F4 wl
 have B4:=B3.frame F4 wb
 have w3:w<σ3.len:=JS wb' hpb
 apply dj (vs:=[.ref w,.ref R.q]) (pS rfl)
 refine nG (d:=d+9) D4 W4 (by decide) w3 o1 λ d2 σ5 o2 D5 ln5 W5 f5=>?_
 have F5:Fw w σ4 σ5:=⟨by rw [ln5];exact JU _ _,f5⟩
 have A5:=A4.frame F5 wl
 have B5:=B4.frame F5 wb
 have hp4:pb+14≤σ4.len:=JT hpb F4.len
 have D4':cg σ5 R σ3.len (σ3.len+12) d1:=D4.frame F5.len λ k a b=>f5 k (JS b D4.len) (J8 (JS w3 a))
 have E2:Dx σ5 (pb+14) ⟨σ4.len,σ4.len+3,σ4.len+6,σ4.len+1,σ4.len+2,σ4.len+4,σ4.len+5,σ4.len+7,σ4.len+8,σ4.len+9,σ4.len+10,σ4.len+11⟩ d2:=.mk hp4 (D5.at (J3 ln5.symm))
 apply dj (vs:=[.ref w,.ref R.q]) (pS rfl)
 refine nG (d:=d+9) D4' W5 (by decide) w3 o1 λ d3 σ6 o3 D6 ln6 W6 f6=>?_
 have F6:Fw w σ5 σ6:=⟨by rw [ln6];exact JU _ _,f6⟩
 have E1:Dx σ6 (pb+14) R d1:=(Dx.mk hpb D4').frame (F6.l (e:=pb)) wb' (Kd _)
 have E3:Dx σ6 (pb+14) ⟨σ5.len,σ5.len+3,σ5.len+6,σ5.len+1,σ5.len+2,σ5.len+4,σ5.len+5,σ5.len+7,σ5.len+8,σ5.len+9,σ5.len+10,σ5.len+11⟩ d3:=.mk (JT hp4 F5.len) (D6.at (J3 ln6.symm))
 exact xr (d:=d) (m:=151) (pa:=pa) (pb:=pb) (la:=la) (lb:=lb) (R1:=R) (R2:=⟨σ4.len,σ4.len+3,σ4.len+6,σ4.len+1,σ4.len+2,σ4.len+4,σ4.len+5,σ4.len+7,σ4.len+8,σ4.len+9,σ4.len+10,σ4.len+11⟩) (R3:=⟨σ5.len,σ5.len+3,σ5.len+6,σ5.len+1,σ5.len+2,σ5.len+4,σ5.len+5,σ5.len+7,σ5.len+8,σ5.len+9,σ5.len+10,σ5.len+11⟩) W6 (by decide) (A5.frame F6 wl) av szA (B5.frame F6 wb) szB E1 (E2.frame (F6.l (e:=pb)) wb' (Kd _)) E3 wl hab o1 o2 o3 q
theorem xt {d nr:Nat} {σ:St} {ns:List Nat} {a:Option V} {Q:V→St→Prop} (hn:σ.get nr=some (.list aa (ns.map vi))) (h1:1≤ns.length) (h2:ns.length≤1000) (q:∀σ',Q (.bool true) σ'):
  ah (aw (d+15)) (jh.drop 2) [a,some (.ref nr),none,none,none,none,none,none,none,none,none,none,none,none] σ (λ o yy σ'=>Q (cp o) σ'):=by
 refine ze (vs:=[.ref nr,.int 0]) (pS rfl) rfl ?_
 exact xq (d:=d) (w:=σ.len) ⟨nr,ns,0,be,bT hn,ac hn,h1,h2,Kd _,aQ⟩ q
noncomputable def n1:List Nat:=[0,1,0,0,0,0,0,2,0,0,0,0,0,0,0,3,1,0,0,1,4,0,0,0,0,1,0,0,1,0,0,0,1,0,1,1,2,1,1,0,0]
noncomputable def n2:List Nat:=[1,0,1,0,2,2,2,1,0,4,0,0,0,1,0,1,0,0,2,0,2,1,0,0,3,0,2,0,0,0,1,1,2]
noncomputable def n3:List Nat:=[0,1,0,0,1,0,3,2,1,5,22,41,63,0,1,0,1]
theorem pL {C:ak} {ρ:ax} {σ:St} {xs:List X} {vs:List V} (h:pZ 60 xs ρ=some vs):∀Q,Q (.ref σ.len) (σ.new (.list aa vs))→aH C (.list xs) ρ σ Q:=λ Q q=>kL (λ Q=>(wN C 60).evs xs ρ σ vs Q h) q
theorem Hv {C:ak} {ρ:ax} {σ:St} {i r:Nat} {t:Tg} {xs:List X} {vs l:List V} (h1:bK ρ i=some (.ref r)) (g:σ.get r=some (.list t l)) (h:pZ 60 xs ρ=some vs) (hl:l.length+vs.length≤aN):∀Q,Q (.ref (σ.new (.list aa vs)).len) ((σ.new (.list aa vs)).new (.list aa (l++vs)))→aH C (.bin .add (.loc i) (.list xs)) ρ σ Q:=λ Q q=>
 pX (C:=C) (x:=.loc i) h1 (λ u σ1=>aH C (.list xs) ρ σ1 λ v σ2=>iD .add u v σ2 Q) (pL h (λ v σ2=>iD .add (.ref r) v σ2 Q) (yw (bT g) be hl q))
theorem c_law {d:Nat} {xs:List Int} {σ:St} {Q:V→St→Prop} (q:∀σ',Q (.bool true) σ'):aw (d+16) (.g "law") [.rol xs] σ Q:=by
 refine go Hs rfl (bq ?_)
 refine ⟨by decide,?_⟩
 show er _ _ ((xs.map V.int).take 40) _ _ _
 generalize hl:(xs.map V.int).take 40=l
 have hl:l=(xs.take 40).map V.int:=hl.symm.trans (List.map_take ..).symm
 subst hl
 refine eo (acc:=[]) (λ rest acc s=>s=σ.new (.list aa ((xs.map V.int).take (Int.toNat 40)))∧∃ns:List Nat,acc=ns.map vi∧ns.length+rest.length=(xs.take 40).length) (λ acc s i=>?_) (λ x rest acc s i=>?_) ⟨rfl,[],rfl,Nat.zero_add _⟩
 ·refine i.2.elim λ ns h=>?_
  rw [i.1,h.1]
  refine ⟨be,?_⟩
  have hn:ns.length≤1000:=JT (J3 h.2) (JT (List.length_take_le _ _) (by decide))
  generalize σ.new (.list aa ((xs.map V.int).take (Int.toNat 40)))=s0
  have g0:(s0.new (.list aa (ns.map vi))).get s0.len=some (.list aa (ns.map vi)):=be
  by_cases h0:ns.length=0
  ·apply aU (by dsimp! [bH g0 (congrArg some (List.length_map _)),EN (congrArg Int.ofNat h0)])
   apply setN (pL (vs:=n1.map vi) rfl)
   apply setN (Hv (vs:=n2.map vi) (l:=n1.map vi) rfl be rfl (by decide))
   apply setN (Hv (vs:=n3.map vi) (l:=n1.map vi++n2.map vi) rfl be rfl (by decide))
   exact xt (d:=d) (ns:=n1++n2++n3) (be.trans (by rw [List.map_append,List.map_append])) (by decide) (by decide) q
  ·apply ay (by dsimp! [bH g0 (congrArg some (List.length_map _)),vo (i0 h0)])
   exact xt (d:=d) g0 (Nat.pos_of_ne_zero h0) hn q
 ·refine i.2.elim λ ns h=>?_
  rw [i.1,h.1]
  refine ⟨be,λ K hK yy=>?_⟩
  have e:x % 999983=((x % 999983).toNat:Int):=(Int.toNat_of_nonneg (Int.emod_nonneg x (by decide))).symm
  refine ⟨(by decide:(0:Int)<999983),?_⟩
  show K (some (.int (x % 999983))) _
  rw [e]
  exact hK _ _ ⟨rfl,ns++[(x % 999983).toNat],by rw [List.map_append];rfl,by rw [List.length_append];exact (Lh ns.length 1 rest.length).trans ((congrArg (ns.length+·) (Nat.add_comm 1 rest.length)).trans h.2)⟩
end Mine.L3
end
section
open Mine in
theorem BP:pq.wellSaid=true:=by
 rewrite [PySem.W.Fast.te9446332074065402090]
 kernel_rfl
theorem PySem.Challenge.cw_xm0312_01_holds : PySem.Challenge.rw_xm0312_01.Holds :=
 Mine.whead BP (Mine.walk_of λ l Q q=>Mine.L3.c_law (d:=0) q)
end
